import PyProof.Rows.All
import Wide.All
import OpenK.AllK
import Wide.FinOn
import HandS.Codes
import HandS.ForMost
import HandS.Lambda
import KE.KStateDown
import HandS.EndTab
import HandS.HeadHook4
import HandS.HeadWalk
import HandS.Head0
import HandS.Head1
import HandS.Head2
import KE.LtData
import KE.SortData
import PyProof.TupleOfSeq
import PyProof.ReprRoads
import HandS.TupLe
import HandS.TupAny
import HandS.Zip
import HandS.Walk
import HandS.FStrTup
import HandS.ExcOwn
import HandS.ExcValue
import HandS.HeadHook2
import HandS.IsInst
import HandS.Conv
import HandS.Style
import HandS.RaiseMore
import HandS.Deep
import HandS.Replace
import HandS.Text
import HandS.Small
import HandS.Dict
import PySem.Challenge.RW_faderscenes_k33_whole_texts_of_shows
set_option Elab.async false
set_option linter.all false
set_option maxRecDepth 100000
set_option maxHeartbeats 8000000
/-! Shows as plain data, their texts, what a good show is. No program in sight. -/
namespace K33
open PySem L2

inductive Deed where
  | to (x : Int) | by_ (x : Int) | turn | kept | as_ (l : Int)
  deriving DecidableEq
structure Ent where
  mute : Bool
  line : Int
  deed : Deed
  deriving DecidableEq
structure Show where
  strips : Int
  members : List (List Int)
  gangs : List (List Int)
  hands : List Int
  safes : List Int
  scenes : List (List Ent)
  order : List Int
  deriving DecidableEq

/-! ### words -/
inductive W where
  | s (x : Str) | i (n : Int)
  deriving DecidableEq
def W.v : W → V
  | .s x => .str x
  | .i n => .int n
def W.d : W → PyData
  | .s x => .str x
  | .i n => .int n
def intL (n : Int) : List Nat := if n < 0 then 45 :: TL.numL n.natAbs else TL.numL n.natAbs
def intS (n : Int) : Str := SX.S (intL n)
def W.t : W → Str
  | .s x => x
  | .i n => intS n
def kindS (m : Bool) : Str := if m then "mute" else "fader"
def Deed.w : Deed → List W
  | .to x => [.s "to", .i x]
  | .by_ x => [.s "by", .i x]
  | .turn => [.s "turn"]
  | .kept => [.s "kept"]
  | .as_ l => [.s "as", .i l]
def Ent.w (e : Ent) : List W := .s (kindS e.mute) :: .i e.line :: e.deed.w
def lineOf (x : Str) (ns : List Int) : List W := .s x :: ns.map W.i
def someLine (x : Str) (ns : List Int) : List (List W) := if ns = [] then [] else [lineOf x ns]
def sceneRows (sc : List Ent) : List (List W) := [.s "scene"] :: sc.map Ent.w
def rows (s : Show) : List (List W) :=
  [.s "strips", .i s.strips] :: (s.members.map (lineOf "group") ++ (s.gangs.map (lineOf "gang") ++ (someLine "hands" s.hands ++ (someLine "safes" s.safes ++ ((s.scenes.map sceneRows).flatten ++ someLine "list" s.order)))))
def rowT (r : List W) : Str := Txt.join " " (r.map W.t)
def showT (s : Show) : Str := Txt.join "\n" ((rows s).map rowT)

/-! ### as Python's data -/
def dInts (ns : List Int) : PyData := .tuple (ns.map PyData.int)
def wsD (ws : List W) : PyData := .tuple (ws.map W.d)
def Ent.d (e : Ent) : PyData := .tuple [wsD [.s (kindS e.mute), .i e.line], wsD e.deed.w]
def scD (es : List Ent) : PyData := .tuple (es.map Ent.d)
def Show.d (s : Show) : PyData := .tuple [.int s.strips, .tuple (s.members.map dInts), .tuple (s.gangs.map dInts), dInts s.hands, dInts s.safes, .tuple (s.scenes.map scD), dInts s.order]

/-! ### good shows -/
def Rising (ns : List Int) (m : Int) : Prop := (∀ n ∈ ns, 0 ≤ n ∧ n < m) ∧ ns.Pairwise (· < ·)
def entLt (a b : Ent) : Prop := (a.mute = false ∧ b.mute = true) ∨ (a.mute = b.mute ∧ a.line < b.line)
def DeedOk (mute : Bool) (line lines : Int) : Deed → Prop
  | .kept => True
  | .turn => mute = true
  | .as_ l => 0 ≤ l ∧ l < lines ∧ l ≠ line
  | .to x => if mute = true then 0 ≤ x ∧ x ≤ 1 else -1000000 ≤ x ∧ x ≤ 1000000
  | .by_ x => mute = false ∧ -1000000 ≤ x ∧ x ≤ 1000000
def EntOk (lines : Int) (e : Ent) : Prop := 0 ≤ e.line ∧ e.line < lines ∧ DeedOk e.mute e.line lines e.deed
def SceneOk (lines : Int) (sc : List Ent) : Prop := sc.length ≤ 12 ∧ (∀ e ∈ sc, EntOk lines e) ∧ sc.Pairwise entLt
def gangLt (a b : List Int) : Prop := a < b ∧ ∀ x ∈ b, x ∉ a
def Show.lines (s : Show) : Int := s.strips + s.members.length
def isKept (e : Ent) : Bool := decide (e.deed = .kept)
structure Valid (s : Show) : Prop where
  st : 1 ≤ s.strips ∧ s.strips ≤ 6
  ml : s.members.length ≤ 3
  mr : ∀ m ∈ s.members, Rising m s.strips
  gl : s.gangs.length ≤ 4
  gr : ∀ g ∈ s.gangs, Rising g s.lines ∧ 2 ≤ g.length
  gp : s.gangs.Pairwise gangLt
  hr : Rising s.hands s.lines
  hl : s.hands.length ≤ 9
  sr : Rising s.safes s.lines
  sl : s.safes.length ≤ 3
  cl : s.scenes.length ≤ 6
  cr : ∀ sc ∈ s.scenes, SceneOk s.lines sc
  ol : s.order.length ≤ 8
  orr : ∀ n ∈ s.order, 0 ≤ n ∧ n < s.scenes.length
  kp : (s.scenes.flatten.filter isKept).length ≤ 12

/-! ### lengths of rising lists -/
theorem rising_len_from : ∀ (ns : List Int) (lo m : Int), lo ≤ m → (∀ n ∈ ns, lo ≤ n ∧ n < m) → ns.Pairwise (· < ·) → (ns.length : Int) ≤ m - lo
  | [], lo, m, h, _, _ => by
    show ((0 : Nat) : Int) ≤ m - lo
    omega
  | x :: r, lo, m, _, hb, hp => by
    have h1 := hb x List.mem_cons_self
    rw [List.pairwise_cons] at hp
    have ih := rising_len_from r (x + 1) m (by omega) (fun n hn => by
      have a := hp.1 n hn
      have b := hb n (List.mem_cons_of_mem _ hn)
      omega) hp.2
    rw [List.length_cons]
    omega
theorem Rising.len {ns : List Int} {m : Int} (h : Rising ns m) (hm : 0 ≤ m) : (ns.length : Int) ≤ m := by
  have := rising_len_from ns 0 m hm h.1 h.2
  omega

/-! ### signs of a word -/
theorem intL_mem {n : Int} {c : Nat} (h : c ∈ intL n) : c = 45 ∨ (48 ≤ c ∧ c ≤ 57) := by
  unfold intL at h
  split at h
  · rcases List.mem_cons.mp h with e | e
    · exact .inl e
    · exact .inr (TL.numL_digits _ c e)
  · exact .inr (TL.numL_digits _ c h)
theorem intL_ne (n : Int) : intL n ≠ [] := by
  unfold intL
  split
  · simp
  · exact TL.numL_ne _
theorem intL_inj {m n : Int} (h : intL m = intL n) : m = n := by
  unfold intL at h
  have no : ∀ k l : Nat, 45 :: TL.numL k ≠ TL.numL l := fun k l e => by
    have q : 45 ∈ TL.numL l := by
      rw [← e]
      exact List.mem_cons_self
    exact TL.numL_free (s := 45) (by omega) q
  split at h <;> split at h
  · have := TL.numL_inj (List.cons.inj h).2
    omega
  · exact absurd h (no _ _)
  · exact absurd h.symm (no _ _)
  · have := TL.numL_inj h
    omega
theorem intL_len {n : Int} (h1 : -9999999 ≤ n) (h2 : n ≤ 9999999) : (intL n).length ≤ 8 := by
  have := TL.numL_len (n := n.natAbs) (k := 7) (by decide) (by omega)
  unfold intL
  split
  · rw [List.length_cons]
    omega
  · omega
theorem intS_tl (n : Int) : TL.tl (intS n) = intL n := rfl
theorem intS_len (n : Int) : (intS n).length = (intL n).length := SX.S_len _
theorem intS_toString (n : Int) : (toString n : Str) = intS n := by
  refine TL.ext_tl ?_
  rw [intS_tl]
  unfold intL
  cases n with
  | ofNat k =>
    rw [if_neg (by show ¬ ((k : Int) < 0); omega)]
    exact TL.tl_num k
  | negSucc k =>
    rw [if_pos (Int.negSucc_lt_zero k)]
    have e : toString (Int.negSucc k) = "-" ++ toString ((k + 1 : Nat) : Int) := rfl
    rw [e, TL.tl_ofString, String.toList_append, List.map_append]
    have z := TL.tl_num (k + 1)
    rw [TL.tl_ofString] at z
    rw [z] <;> rfl
/-- the words that stand ahead or are deeds -/
def keyB (x : Str) : Bool := (TL.tl x).all fun c => decide (97 ≤ c) && decide (c ≤ 122)
def W.ok : W → Prop
  | .s x => keyB x = true ∧ TL.tl x ≠ [] ∧ x.length ≤ 6
  | .i n => -9999999 ≤ n ∧ n ≤ 9999999
theorem W.free {w : W} (h : w.ok) {c : Nat} (hc : c < 45) : c ∉ TL.tl w.t := fun hm => by
  cases w with
  | s x =>
    have := List.all_eq_true.mp h.1 c hm
    rw [Bool.and_eq_true, decide_eq_true_eq, decide_eq_true_eq] at this
    omega
  | i n =>
    rcases intL_mem (n := n) hm with e | e <;> omega
theorem W.len {w : W} (h : w.ok) : w.t.length ≤ 8 := by
  cases w with
  | s x =>
    have := h.2.2
    show x.length ≤ 8
    omega
  | i n =>
    show (intS n).length ≤ 8
    rw [intS_len]
    exact intL_len h.1 h.2
theorem W.inj {a b : W} (ha : a.ok) (hb : b.ok) (h : a.t = b.t) : a = b := by
  have no : ∀ (x : Str) (n : Int), W.ok (.s x) → x ≠ intS n := fun x n hx e => by
    have q : intL n ≠ [] := intL_ne n
    cases hq : intL n with
    | nil => exact q hq
    | cons c r =>
      have hc : c ∈ TL.tl x := by
        rw [e, intS_tl, hq]
        exact List.mem_cons_self
      have h1 := List.all_eq_true.mp hx.1 c hc
      rw [Bool.and_eq_true, decide_eq_true_eq, decide_eq_true_eq] at h1
      rcases intL_mem (n := n) (c := c) (by rw [hq]; exact List.mem_cons_self) with e | e <;> omega
  cases a with
  | s x =>
    cases b with
    | s y => exact congrArg W.s h
    | i n => exact absurd h (no x n ha)
  | i m =>
    cases b with
    | s y => exact absurd h.symm (no y m hb)
    | i n =>
      have e : intL m = intL n := congrArg TL.tl h
      rw [intL_inj e]

/-! ### joined texts -/
theorem joinL_mem {S : List Nat} {c : Nat} : ∀ {ps : List (List Nat)}, c ∈ TL.joinL S ps → c ∈ S ∨ ∃ p ∈ ps, c ∈ p
  | [], h => nomatch h
  | [p], h => .inr ⟨p, List.mem_cons_self, h⟩
  | p :: q :: r, h => by
    have h' : c ∈ p ++ (S ++ TL.joinL S (q :: r)) := h
    rcases List.mem_append.mp h' with e | e
    · exact .inr ⟨p, List.mem_cons_self, e⟩
    · rcases List.mem_append.mp e with e | e
      · exact .inl e
      · rcases joinL_mem e with z | ⟨u, hu, z⟩
        · exact .inl z
        · exact .inr ⟨u, List.mem_cons_of_mem _ hu, z⟩
theorem joinL_len {S : List Nat} (k : Nat) : ∀ {ps : List (List Nat)}, (∀ p ∈ ps, p.length ≤ k) → (TL.joinL S ps).length ≤ ps.length * (k + S.length)
  | [], _ => Nat.zero_le _
  | [p], h => by
    have := h p List.mem_cons_self
    show p.length ≤ 1 * (k + S.length)
    omega
  | p :: q :: r, h => by
    have h1 := h p List.mem_cons_self
    have ih := joinL_len (S := S) k (ps := q :: r) fun z hz => h z (List.mem_cons_of_mem _ hz)
    show (p ++ (S ++ TL.joinL S (q :: r))).length ≤ (r.length + 1 + 1) * (k + S.length)
    rw [List.length_append, List.length_append]
    have e : (q :: r).length = r.length + 1 := rfl
    rw [e] at ih
    rw [Nat.add_mul (r.length + 1) 1, Nat.one_mul]
    omega
theorem join_tl (y : Str) (ps : List Str) : TL.tl (Txt.join y ps) = TL.joinL (TL.tl y) (ps.map TL.tl) := by
  rw [TL.join_eq, TL.tl_join]
theorem sum_le {ys : List Str} (k : Nat) (h : ∀ y ∈ ys, y.length ≤ k) : (ys.map (·.length)).sum ≤ ys.length * k := by
  induction ys with
  | nil => exact Nat.zero_le _
  | cons y r ih =>
    have h1 := h y List.mem_cons_self
    have h2 := ih fun z hz => h z (List.mem_cons_of_mem _ hz)
    rw [List.map_cons, List.sum_cons, List.length_cons, Nat.add_mul, Nat.one_mul]
    omega
def RowOk (r : List W) : Prop := r ≠ [] ∧ r.length ≤ 10 ∧ ∀ w ∈ r, w.ok
theorem row_split {r : List W} (h : RowOk r) : Txt.split (rowT r) " " = r.map W.t := by
  refine TL.split_join (s := 32) (S := []) (by decide +kernel) (by decide +kernel) (fun e => h.1 (List.map_eq_nil_iff.mp e)) fun p hp => ?_
  obtain ⟨w, hw, rfl⟩ := List.mem_map.mp hp
  exact W.free (h.2.2 w hw) (by decide)
theorem sp_tl : TL.tl (" " : Str) = [32] := by decide +kernel
theorem nl_tl : TL.tl ("\n" : Str) = [10] := by decide +kernel
theorem row_free {r : List W} (h : RowOk r) : 10 ∉ TL.tl (rowT r) := fun hm => by
  unfold rowT at hm
  rw [join_tl, sp_tl] at hm
  rcases joinL_mem hm with e | ⟨p, hp, e⟩
  · simp at e
  · rw [List.map_map] at hp
    obtain ⟨w, hw, rfl⟩ := List.mem_map.mp hp
    exact W.free (h.2.2 w hw) (c := 10) (by decide) e
theorem row_len {r : List W} (h : RowOk r) : (rowT r).length ≤ 90 := by
  have e := joinL_len (S := [32]) 8 (ps := (r.map W.t).map TL.tl) (fun p hp => by
    rw [List.map_map] at hp
    obtain ⟨w, hw, rfl⟩ := List.mem_map.mp hp
    have := W.len (h.2.2 w hw)
    rw [TL.len_tl] at this
    exact this)
  rw [TL.len_tl]
  unfold rowT
  rw [join_tl, sp_tl]
  have z := h.2.1
  rw [List.length_map, List.length_map] at e
  have : r.length * (8 + [32].length) ≤ 10 * 9 := Nat.mul_le_mul z (by decide)
  omega
theorem text_split {rs : List (List W)} (hne : rs ≠ []) (h : ∀ r ∈ rs, RowOk r) : Txt.split (Txt.join "\n" (rs.map rowT)) "\n" = rs.map rowT := by
  refine TL.split_join (s := 10) (S := []) (by decide +kernel) (by decide +kernel) (fun e => hne (List.map_eq_nil_iff.mp e)) fun p hp => ?_
  obtain ⟨r, hr, rfl⟩ := List.mem_map.mp hp
  exact row_free (h r hr)
theorem text_len {rs : List (List W)} (h : ∀ r ∈ rs, RowOk r) : (Txt.join "\n" (rs.map rowT)).length ≤ rs.length * 91 := by
  have e := joinL_len (S := [10]) 90 (ps := (rs.map rowT).map TL.tl) (fun p hp => by
    rw [List.map_map] at hp
    obtain ⟨w, hw, rfl⟩ := List.mem_map.mp hp
    have := row_len (h w hw)
    rw [TL.len_tl] at this
    exact this)
  rw [TL.len_tl, join_tl, nl_tl]
  rw [List.length_map, List.length_map] at e
  exact e
theorem map_t_inj : ∀ {a b : List W}, (∀ w ∈ a, w.ok) → (∀ w ∈ b, w.ok) → a.map W.t = b.map W.t → a = b
  | [], [], _, _, _ => rfl
  | [], _ :: _, _, _, h => by simp at h
  | _ :: _, [], _, _, h => by simp at h
  | x :: a, y :: b, ha, hb, h => by
    rw [List.map_cons, List.map_cons] at h
    have h := List.cons.inj h
    rw [W.inj (ha x List.mem_cons_self) (hb y List.mem_cons_self) h.1, map_t_inj (fun w hw => ha w (List.mem_cons_of_mem _ hw)) (fun w hw => hb w (List.mem_cons_of_mem _ hw)) h.2]
theorem rowT_inj {a b : List W} (ha : RowOk a) (hb : RowOk b) (h : rowT a = rowT b) : a = b := by
  have e := congrArg (fun x => Txt.split x " ") h
  simp only [row_split ha, row_split hb] at e
  exact map_t_inj ha.2.2 hb.2.2 e
theorem map_rowT_inj : ∀ {a b : List (List W)}, (∀ w ∈ a, RowOk w) → (∀ w ∈ b, RowOk w) → a.map rowT = b.map rowT → a = b
  | [], [], _, _, _ => rfl
  | [], _ :: _, _, _, h => by simp at h
  | _ :: _, [], _, _, h => by simp at h
  | x :: a, y :: b, ha, hb, h => by
    rw [List.map_cons, List.map_cons] at h
    have h := List.cons.inj h
    rw [rowT_inj (ha x List.mem_cons_self) (hb y List.mem_cons_self) h.1, map_rowT_inj (fun w hw => ha w (List.mem_cons_of_mem _ hw)) (fun w hw => hb w (List.mem_cons_of_mem _ hw)) h.2]
end K33
namespace K33
open PySem L2
/-! ### a good show's rows -/
theorem key_ok {x : Str} (h : (keyB x && (decide (TL.tl x ≠ []) && decide (x.length ≤ 6))) = true) : (W.s x).ok := by
  rw [Bool.and_eq_true, Bool.and_eq_true, decide_eq_true_eq, decide_eq_true_eq] at h
  exact h
theorem kind_ok (m : Bool) : (W.s (kindS m)).ok := by
  cases m
  · exact key_ok (by decide +kernel)
  · exact key_ok (by decide +kernel)
theorem int_ok {n : Int} (h1 : -9999999 ≤ n) (h2 : n ≤ 9999999) : (W.i n).ok := ⟨h1, h2⟩
theorem lineOf_ok {x : Str} {ns : List Int} (hx : (W.s x).ok) (hl : ns.length ≤ 9) (h : ∀ n ∈ ns, 0 ≤ n ∧ n ≤ 100) : RowOk (lineOf x ns) := by
  refine ⟨by simp [lineOf], by simp [lineOf]; omega, fun w hw => ?_⟩
  rcases List.mem_cons.mp hw with e | e
  · rw [e]
    exact hx
  · obtain ⟨n, hn, rfl⟩ := List.mem_map.mp e
    have := h n hn
    exact int_ok (by omega) (by omega)
theorem ent_ok {lines : Int} {e : Ent} (hl : lines ≤ 9) (h : EntOk lines e) : RowOk e.w := by
  obtain ⟨h1, h2, h3⟩ := h
  have k : ∀ w ∈ e.deed.w, w.ok := by
    intro w hw
    cases hd : e.deed with
    | to x =>
      rw [hd] at hw h3
      have b : -1000000 ≤ x ∧ x ≤ 1000000 := by
        have h3 : if e.mute = true then 0 ≤ x ∧ x ≤ 1 else -1000000 ≤ x ∧ x ≤ 1000000 := h3
        split at h3 <;> omega
      rcases List.mem_cons.mp hw with z | z
      · rw [z]
        exact key_ok (by decide +kernel)
      · rw [List.mem_singleton.mp z]
        exact int_ok (by omega) (by omega)
    | by_ x =>
      rw [hd] at hw h3
      have h3 : e.mute = false ∧ -1000000 ≤ x ∧ x ≤ 1000000 := h3
      rcases List.mem_cons.mp hw with z | z
      · rw [z]
        exact key_ok (by decide +kernel)
      · rw [List.mem_singleton.mp z]
        exact int_ok (by omega) (by omega)
    | turn =>
      rw [hd] at hw
      rw [List.mem_singleton.mp hw]
      exact key_ok (by decide +kernel)
    | kept =>
      rw [hd] at hw
      rw [List.mem_singleton.mp hw]
      exact key_ok (by decide +kernel)
    | as_ l =>
      rw [hd] at hw h3
      have h3 : 0 ≤ l ∧ l < lines ∧ l ≠ e.line := h3
      rcases List.mem_cons.mp hw with z | z
      · rw [z]
        exact key_ok (by decide +kernel)
      · rw [List.mem_singleton.mp z]
        exact int_ok (by omega) (by omega)
  have kl : e.deed.w.length ≤ 2 := by cases e.deed <;> simp [Deed.w]
  refine ⟨by simp [Ent.w], by simp [Ent.w]; omega, fun w hw => ?_⟩
  rcases List.mem_cons.mp hw with z | z
  · rw [z]
    exact kind_ok _
  · rcases List.mem_cons.mp z with z | z
    · rw [z]
      exact int_ok (by omega) (by omega)
    · exact k w z
theorem Valid.lines {s : Show} (h : Valid s) : 1 ≤ s.lines ∧ s.lines ≤ 9 := by
  have a := h.st
  have b := h.ml
  unfold Show.lines
  omega
theorem Rising.row {x : Str} {ns : List Int} {m : Int} (hx : (W.s x).ok) (h : Rising ns m) (h0 : 0 ≤ m) (hm : m ≤ 9) : RowOk (lineOf x ns) := by
  have l := h.len h0
  exact lineOf_ok hx (by omega) fun n hn => by
    have := h.1 n hn
    omega
theorem someLine_mem {x : Str} {ns : List Int} {r : List W} (h : r ∈ someLine x ns) : r = lineOf x ns := by
  unfold someLine at h
  split at h
  · nomatch h
  · exact List.mem_singleton.mp h
theorem rows_mem {s : Show} {r : List W} (h : r ∈ rows s) : r = [.s "strips", .i s.strips] ∨ (∃ m ∈ s.members, r = lineOf "group" m) ∨ (∃ m ∈ s.gangs, r = lineOf "gang" m) ∨ r = lineOf "hands" s.hands ∨ r = lineOf "safes" s.safes ∨ r = [.s "scene"] ∨ (∃ sc ∈ s.scenes, ∃ e ∈ sc, r = e.w) ∨ r = lineOf "list" s.order := by
  unfold rows at h
  rcases List.mem_cons.mp h with z | z
  · exact .inl z
  · refine .inr ?_
    rcases List.mem_append.mp z with z | z
    · obtain ⟨m, hm, rfl⟩ := List.mem_map.mp z
      exact .inl ⟨m, hm, rfl⟩
    · refine .inr ?_
      rcases List.mem_append.mp z with z | z
      · obtain ⟨m, hm, rfl⟩ := List.mem_map.mp z
        exact .inl ⟨m, hm, rfl⟩
      · refine .inr ?_
        rcases List.mem_append.mp z with z | z
        · exact .inl (someLine_mem z)
        · refine .inr ?_
          rcases List.mem_append.mp z with z | z
          · exact .inl (someLine_mem z)
          · refine .inr ?_
            rcases List.mem_append.mp z with z | z
            · obtain ⟨l, hl, hr⟩ := List.mem_flatten.mp z
              obtain ⟨sc, hsc, rfl⟩ := List.mem_map.mp hl
              rcases List.mem_cons.mp hr with e | e
              · exact .inl e
              · obtain ⟨en, hen, rfl⟩ := List.mem_map.mp e
                exact .inr (.inl ⟨sc, hsc, en, hen, rfl⟩)
            · exact .inr (.inr (someLine_mem z))
theorem Valid.rowOk {s : Show} (h : Valid s) : ∀ r ∈ rows s, RowOk r := fun r hr => by
  have hl := h.lines
  have hs := h.st
  rcases rows_mem hr with e | ⟨m, hm, e⟩ | ⟨m, hm, e⟩ | e | e | e | ⟨sc, hsc, en, hen, e⟩ | e <;> rw [e]
  · refine ⟨by simp, by simp, fun w hw => ?_⟩
    rcases List.mem_cons.mp hw with z | z
    · rw [z]
      exact key_ok (by decide +kernel)
    · rw [List.mem_singleton.mp z]
      exact int_ok (by omega) (by omega)
  · exact (h.mr m hm).row (key_ok (by decide +kernel)) (by omega) (by omega)
  · exact (h.gr m hm).1.row (key_ok (by decide +kernel)) (by omega) (by omega)
  · exact h.hr.row (key_ok (by decide +kernel)) (by omega) (by omega)
  · exact h.sr.row (key_ok (by decide +kernel)) (by omega) (by omega)
  · refine ⟨by simp, by simp, fun w hw => ?_⟩
    rw [List.mem_singleton.mp hw]
    exact key_ok (by decide +kernel)
  · exact ent_ok (by omega) ((h.cr sc hsc).2.1 en hen)
  · exact lineOf_ok (key_ok (by decide +kernel)) (by have := h.ol; omega) fun n hn => by
      have a := h.orr n hn
      have b := h.cl
      omega
theorem someLine_len (x : Str) (ns : List Int) : (someLine x ns).length ≤ 1 := by
  unfold someLine
  split <;> simp
theorem flatten_len {α : Type} (k : Nat) : ∀ {l : List (List α)}, (∀ x ∈ l, x.length ≤ k) → l.flatten.length ≤ l.length * k
  | [], _ => Nat.zero_le _
  | x :: l, h => by
    have h1 := h x List.mem_cons_self
    have h2 := flatten_len k (l := l) fun y hy => h y (List.mem_cons_of_mem _ hy)
    rw [List.flatten_cons, List.length_append, List.length_cons, Nat.add_mul, Nat.one_mul]
    omega
theorem Valid.rows_len {s : Show} (h : Valid s) : (rows s).length ≤ 100 := by
  have h1 := h.ml
  have h2 := h.gl
  have h3 := h.cl
  have a := someLine_len "hands" s.hands
  have b := someLine_len "safes" s.safes
  have c := someLine_len "list" s.order
  have d := flatten_len 13 (l := s.scenes.map sceneRows) (fun x hx => by
    obtain ⟨sc, hsc, rfl⟩ := List.mem_map.mp hx
    have := (h.cr sc hsc).1
    unfold sceneRows
    rw [List.length_cons, List.length_map]
    omega)
  rw [List.length_map] at d
  have e : s.scenes.length * 13 ≤ 6 * 13 := Nat.mul_le_mul h3 (Nat.le_refl _)
  unfold rows
  simp only [List.length_cons, List.length_append, List.length_map]
  omega
theorem rows_ne (s : Show) : rows s ≠ [] := by simp [rows]
theorem Valid.split {s : Show} (h : Valid s) : Txt.split (showT s) "\n" = (rows s).map rowT := text_split (rows_ne s) h.rowOk
theorem Valid.len {s : Show} (h : Valid s) : (showT s).length ≤ 9100 := by
  have a := text_len h.rowOk
  have b := h.rows_len
  have c : (rows s).length * 91 ≤ 100 * 91 := Nat.mul_le_mul b (Nat.le_refl _)
  unfold showT
  omega

/-! ### texts of unlike shows are unlike -/
/-- rows of one kind, then rows that are not of it -/
theorem pre_inj {α : Type} {p : α → Bool} : ∀ {A B R S : List α}, (∀ a ∈ A, p a = true) → (∀ b ∈ B, p b = true) → (∀ r, R.head? = some r → p r = false) → (∀ r, S.head? = some r → p r = false) → A ++ R = B ++ S → A = B ∧ R = S
  | [], [], _, _, _, _, _, _, h => ⟨rfl, h⟩
  | [], b :: B, R, S, _, hb, hR, _, h => by
    have e : R = b :: (B ++ S) := h
    have := hR b (by rw [e] <;> rfl)
    rw [hb b List.mem_cons_self] at this
    cases this
  | a :: A, [], R, S, ha, _, _, hS, h => by
    have e : a :: (A ++ R) = S := h
    have := hS a (by rw [← e] <;> rfl)
    rw [ha a List.mem_cons_self] at this
    cases this
  | a :: A, b :: B, R, S, ha, hb, hR, hS, h => by
    rw [List.cons_append, List.cons_append] at h
    have h := List.cons.inj h
    obtain ⟨e1, e2⟩ := pre_inj (A := A) (B := B) (fun x hx => ha x (List.mem_cons_of_mem _ hx)) (fun x hx => hb x (List.mem_cons_of_mem _ hx)) hR hS h.2
    exact ⟨by rw [h.1, e1], e2⟩
def headIs (xs : List Str) (r : List W) : Bool := match r with
  | .s x :: _ => decide (x ∈ xs)
  | _ => false
theorem headIs_line (xs : List Str) (x : Str) (ns : List Int) : headIs xs (lineOf x ns) = decide (x ∈ xs) := rfl
theorem map_inj {α β : Type} {f : α → β} (hf : ∀ a b, f a = f b → a = b) : ∀ {l m : List α}, l.map f = m.map f → l = m
  | [], [], _ => rfl
  | [], _ :: _, h => by simp at h
  | _ :: _, [], h => by simp at h
  | a :: l, b :: m, h => by
    rw [List.map_cons, List.map_cons] at h
    have h := List.cons.inj h
    rw [hf _ _ h.1, map_inj hf h.2]
theorem lineOf_inj {x y : Str} {a b : List Int} (h : lineOf x a = lineOf y b) : a = b := by
  have h := (List.cons.inj h).2
  exact map_inj (fun m n e => W.i.inj e) h
theorem map_lineOf_inj {x : Str} {a b : List (List Int)} (h : a.map (lineOf x) = b.map (lineOf x)) : a = b := map_inj (fun m n e => lineOf_inj e) h
theorem kindS_inj {a b : Bool} (h : kindS a = kindS b) : a = b := by
  cases a <;> cases b <;> first | rfl | (exact absurd h (by decide +kernel))
theorem deed_inj {a b : Deed} (h : a.w = b.w) : a = b := by
  have k : ∀ {x y : Str} {l m : List W}, W.s x :: l = W.s y :: m → x = y := fun h => W.s.inj (List.cons.inj h).1
  cases a <;> cases b <;> first
    | rfl
    | (exact absurd (k h) (by decide +kernel))
    | (have e := W.i.inj (List.cons.inj (List.cons.inj h).2).1; rw [e])
theorem ent_inj {a b : Ent} (h : a.w = b.w) : a = b := by
  obtain ⟨m, l, d⟩ := a
  obtain ⟨m', l', d'⟩ := b
  have h := List.cons.inj h
  have h2 := List.cons.inj h.2
  have e1 : m = m' := kindS_inj (W.s.inj h.1)
  have e2 : l = l' := W.i.inj h2.1
  have e3 : d = d' := deed_inj h2.2
  rw [e1, e2, e3]
theorem headIs_ent (xs : List Str) (e : Ent) : headIs xs e.w = decide (kindS e.mute ∈ xs) := rfl
theorem ent_head (e : Ent) : headIs ["fader", "mute"] e.w = true := by
  rw [headIs_ent]
  cases e.mute <;> decide +kernel
theorem ent_nohead {xs : List Str} (h : (decide (("fader" : Str) ∈ xs) || decide (("mute" : Str) ∈ xs)) = false) (e : Ent) : headIs xs e.w = false := by
  rw [headIs_ent]
  rw [Bool.or_eq_false_iff] at h
  cases e.mute
  · exact h.1
  · exact h.2
/-- what stands at the head of the list's line, or of nothing -/
theorem list_head {r : List W} {ns : List Int} (h : (someLine "list" ns).head? = some r) : r = lineOf "list" ns := by
  cases e : someLine "list" ns with
  | nil =>
    rw [e] at h
    cases h
  | cons a l =>
    rw [e] at h
    have z : a = r := Option.some.inj h
    exact someLine_mem (by rw [e, ← z]; exact List.mem_cons_self)
theorem scenes_head {cs : List (List Ent)} {ns : List Int} {r : List W} (h : ((cs.map sceneRows).flatten ++ someLine "list" ns).head? = some r) : r = [.s "scene"] ∨ r = lineOf "list" ns := by
  cases cs with
  | nil => exact .inr (list_head h)
  | cons c cs => exact .inl (Option.some.inj h).symm
theorem scenes_inj : ∀ {a b : List (List Ent)} {m n : List Int}, (a.map sceneRows).flatten ++ someLine "list" m = (b.map sceneRows).flatten ++ someLine "list" n → a = b ∧ someLine "list" m = someLine "list" n
  | [], [], m, n, h => ⟨rfl, h⟩
  | [], c :: b, m, n, h => by
    have h : someLine "list" m = [W.s "scene"] :: (c.map Ent.w ++ (b.map sceneRows).flatten ++ someLine "list" n) := h
    have e := list_head (ns := m) (by rw [h] <;> rfl)
    exact absurd (W.s.inj (List.cons.inj e).1) (by decide +kernel)
  | c :: a, [], m, n, h => by
    have h : [W.s "scene"] :: (c.map Ent.w ++ (a.map sceneRows).flatten ++ someLine "list" m) = someLine "list" n := h
    have e := list_head (ns := n) (by rw [← h] <;> rfl)
    exact absurd (W.s.inj (List.cons.inj e).1) (by decide +kernel)
  | c :: a, d :: b, m, n, h => by
    have h : [W.s "scene"] :: (c.map Ent.w ++ (a.map sceneRows).flatten ++ someLine "list" m) = [W.s "scene"] :: (d.map Ent.w ++ (b.map sceneRows).flatten ++ someLine "list" n) := h
    have h := (List.cons.inj h).2
    rw [List.append_assoc, List.append_assoc] at h
    have no : ∀ {cs : List (List Ent)} {ns : List Int} {r : List W}, ((cs.map sceneRows).flatten ++ someLine "list" ns).head? = some r → headIs ["fader", "mute"] r = false := fun {cs ns r} hh => by
      rcases scenes_head hh with e | e <;> rw [e]
      · decide +kernel
      · rw [headIs_line]
        decide +kernel
    obtain ⟨e1, e2⟩ := pre_inj (p := headIs ["fader", "mute"]) (fun x hx => by
      obtain ⟨e, _, rfl⟩ := List.mem_map.mp hx
      exact ent_head e) (fun x hx => by
      obtain ⟨e, _, rfl⟩ := List.mem_map.mp hx
      exact ent_head e) (fun r hr => no hr) (fun r hr => no hr) h
    obtain ⟨e3, e4⟩ := scenes_inj e2
    rw [map_inj (fun x y e => ent_inj e) e1, e3]
    exact ⟨rfl, e4⟩
theorem someLine_inj {x : Str} {a b : List Int} (h : someLine x a = someLine x b) : a = b := by
  unfold someLine at h
  split at h <;> split at h
  · rename_i h1 h2
    rw [h1, h2]
  · cases h
  · cases h
  · exact lineOf_inj (List.cons.inj h).1
/-- the heads behind each kind -/
def tail1 (s : Show) : List (List W) := (s.scenes.map sceneRows).flatten ++ someLine "list" s.order
def tail2 (s : Show) : List (List W) := someLine "safes" s.safes ++ tail1 s
def tail3 (s : Show) : List (List W) := someLine "hands" s.hands ++ tail2 s
def tail4 (s : Show) : List (List W) := s.gangs.map (lineOf "gang") ++ tail3 s
def tail5 (s : Show) : List (List W) := s.members.map (lineOf "group") ++ tail4 s
theorem rows_eq (s : Show) : rows s = [.s "strips", .i s.strips] :: tail5 s := rfl
theorem head1 {s : Show} {r : List W} (h : (tail1 s).head? = some r) : headIs ["scene", "list"] r = true := by
  rcases scenes_head h with e | e <;> rw [e]
  · decide +kernel
  · rw [headIs_line]
    decide +kernel
theorem head_some {x : Str} {ns : List Int} {R : List (List W)} {xs : List Str} (hR : ∀ r, R.head? = some r → headIs xs r = true) {r : List W} (h : (someLine x ns ++ R).head? = some r) : headIs (x :: xs) r = true := by
  have up : ∀ r, headIs xs r = true → headIs (x :: xs) r = true := fun r h => by
    cases r with
    | nil => cases h
    | cons w r =>
      cases w with
      | s y => exact decide_eq_true (List.mem_cons_of_mem _ (of_decide_eq_true h))
      | i n => cases h
  unfold someLine at h
  split at h
  · exact up r (hR r h)
  · have e : lineOf x ns = r := Option.some.inj h
    rw [← e]
    exact decide_eq_true List.mem_cons_self
theorem head2 {s : Show} {r : List W} (h : (tail2 s).head? = some r) : headIs ["safes", "scene", "list"] r = true := head_some (fun _ => head1) h
theorem head3 {s : Show} {r : List W} (h : (tail3 s).head? = some r) : headIs ["hands", "safes", "scene", "list"] r = true := head_some (fun _ => head2) h
theorem head4 {s : Show} {r : List W} (h : (tail4 s).head? = some r) : headIs ["gang", "hands", "safes", "scene", "list"] r = true := by
  unfold tail4 at h
  cases hg : s.gangs with
  | nil =>
    rw [hg] at h
    have z := head3 (s := s) (r := r) h
    cases r with
    | nil => cases z
    | cons w r =>
      cases w with
      | s y => exact decide_eq_true (List.mem_cons_of_mem _ (of_decide_eq_true z))
      | i n => cases z
  | cons g l =>
    rw [hg] at h
    have e : lineOf "gang" g = r := Option.some.inj h
    rw [← e, headIs_line]
    decide +kernel
theorem headIs_not {xs ys : List Str} (hd : (ys.all fun y => !decide (y ∈ xs)) = true) {r : List W} (h : headIs ys r = true) : headIs xs r = false := by
  cases r with
  | nil => rfl
  | cons w r =>
    cases w with
    | s y =>
      have h1 := List.all_eq_true.mp hd y (of_decide_eq_true h)
      have h2 : (!decide (y ∈ xs)) = true := h1
      rw [Bool.not_eq_true'] at h2
      exact h2
    | i n => rfl
theorem some_split {x : Str} {a b : List Int} {R S : List (List W)} {ys : List Str} (hd : (ys.all fun y => !decide (y ∈ [x])) = true) (hR : ∀ r, R.head? = some r → headIs ys r = true) (hS : ∀ r, S.head? = some r → headIs ys r = true) (h : someLine x a ++ R = someLine x b ++ S) : a = b ∧ R = S := by
  have all : ∀ ns : List Int, ∀ r ∈ someLine x ns, headIs [x] r = true := fun ns r hr => by
    rw [someLine_mem hr, headIs_line]
    exact decide_eq_true List.mem_cons_self
  obtain ⟨e1, e2⟩ := pre_inj (p := headIs [x]) (all a) (all b) (fun r hr => headIs_not hd (hR r hr)) (fun r hr => headIs_not hd (hS r hr)) h
  exact ⟨someLine_inj e1, e2⟩
theorem many_split {x : Str} {a b : List (List Int)} {R S : List (List W)} {ys : List Str} (hd : (ys.all fun y => !decide (y ∈ [x])) = true) (hR : ∀ r, R.head? = some r → headIs ys r = true) (hS : ∀ r, S.head? = some r → headIs ys r = true) (h : a.map (lineOf x) ++ R = b.map (lineOf x) ++ S) : a = b ∧ R = S := by
  have all : ∀ l : List (List Int), ∀ r ∈ l.map (lineOf x), headIs [x] r = true := fun l r hr => by
    obtain ⟨m, _, rfl⟩ := List.mem_map.mp hr
    rw [headIs_line]
    exact decide_eq_true List.mem_cons_self
  obtain ⟨e1, e2⟩ := pre_inj (p := headIs [x]) (all a) (all b) (fun r hr => headIs_not hd (hR r hr)) (fun r hr => headIs_not hd (hS r hr)) h
  exact ⟨map_lineOf_inj e1, e2⟩
theorem rows_inj {s t : Show} (h : rows s = rows t) : s = t := by
  rw [rows_eq, rows_eq] at h
  have h := List.cons.inj h
  have e0 : s.strips = t.strips := W.i.inj (List.cons.inj (List.cons.inj h.1).2).1
  obtain ⟨e1, h⟩ := many_split (ys := ["gang", "hands", "safes", "scene", "list"]) (by decide +kernel) (fun _ => head4) (fun _ => head4) (show s.members.map (lineOf "group") ++ tail4 s = t.members.map (lineOf "group") ++ tail4 t from h.2)
  obtain ⟨e2, h⟩ := many_split (ys := ["hands", "safes", "scene", "list"]) (by decide +kernel) (fun _ => head3) (fun _ => head3) (show s.gangs.map (lineOf "gang") ++ tail3 s = t.gangs.map (lineOf "gang") ++ tail3 t from h)
  obtain ⟨e3, h⟩ := some_split (ys := ["safes", "scene", "list"]) (by decide +kernel) (fun _ => head2) (fun _ => head2) (show someLine "hands" s.hands ++ tail2 s = someLine "hands" t.hands ++ tail2 t from h)
  obtain ⟨e4, h⟩ := some_split (ys := ["scene", "list"]) (by decide +kernel) (fun _ => head1) (fun _ => head1) (show someLine "safes" s.safes ++ tail1 s = someLine "safes" t.safes ++ tail1 t from h)
  obtain ⟨e5, h⟩ := scenes_inj h
  have e6 := someLine_inj h
  obtain ⟨a, b, c, d, e, f, g⟩ := s
  obtain ⟨a', b', c', d', e', f', g'⟩ := t
  dsimp only at e0 e1 e2 e3 e4 e5 e6
  rw [e0, e1, e2, e3, e4, e5, e6]
theorem showT_inj {s t : Show} (hs : Valid s) (ht : Valid t) (h : showT s = showT t) : s = t := by
  have e := congrArg (fun x => Txt.split x "\n") h
  simp only [hs.split, ht.split] at e
  exact rows_inj (map_rowT_inj hs.rowOk ht.rowOk e)
end K33
/-! Relations between abstract heaps; data in the heap. -/
namespace K33
open PySem PySem.Spec PyProof.Rows L2
/-- lists, tuples, locked things stand as they stood -/
def Solid : HO → Prop
  | .tup _ => True
  | .lst _ => True
  | .frz _ _ => True
  | _ => False
def Fix (H H' : Hp) : Prop := ∀ b o, H b = some o → Solid o → H' b = some o
/-- all but what stands at d is as it was -/
def But (d : Addr) (H H' : Hp) : Prop := ∀ b o, b ≠ d → H b = some o → H' b = some o
theorem Fix.refl (H : Hp) : Fix H H := fun _ _ h _ => h
theorem Fix.trans {H H1 H2 : Hp} (a : Fix H H1) (b : Fix H1 H2) : Fix H H2 := fun c o h n => b c o (a c o h n) n
theorem But.refl (d : Addr) (H : Hp) : But d H H := fun _ _ _ h => h
theorem But.trans {d : Addr} {H H1 H2 : Hp} (a : But d H H1) (b : But d H1 H2) : But d H H2 := fun c o n h => b c o n (a c o n h)
theorem same_fix {H H' : Hp} (s : Same H H') : Fix H H' := fun b o h _ => s b o h
theorem same_but {d : Addr} {H H' : Hp} (s : Same H H') : But d H H' := fun b o _ h => s b o h
theorem extN_fix {H H' : Hp} (s : LamX.ExtN H H') : Fix H H' := fun b o h n => s b o h fun ps e => by
  rw [e] at n
  exact n
theorem same_extN {H H' : Hp} (s : Same H H') : LamX.ExtN H H' := fun b o h _ => s b o h
theorem But.fix {d : Addr} {H H' : Hp} {o : HO} (s : But d H H') (hd : H d = some o) (n : ¬ Solid o) : Fix H H' := fun b u h hs => s b u (fun e => by
  rw [e, hd] at h
  cases h
  exact n hs) h
theorem But.free {d : Addr} {H H' : Hp} (s : But d H H') (hd : H d = none) : Same H H' := fun b u h => s b u (fun e => by
  rw [e, hd] at h
  cases h) h
theorem But.none {d : Addr} {H H' : Hp} (s : But d H H') {b : Addr} (hb : b ≠ d) (h : H' b = Option.none) : H b = Option.none := by
  cases q : H b with
  | none => rfl
  | some o =>
    rw [s b o hb q] at h
    cases h
/-- a new object -/
theorem same_new {H : Hp} {p : Addr} {o : HO} (h : H p = none) : Same H (upd H p o) := fun b u e => by
  rw [upd_ne (ne_of_none e h)]
  exact e
theorem but_upd {H : Hp} {p : Addr} {o : HO} : But p H (upd H p o) := fun b u n e => by
  rw [upd_ne n]
  exact e
/-- from H0, where D was free, over H1, to a store at D -/
theorem same_at {H H1 : Hp} {D : Addr} {o : HO} (h : H D = none) (s : Same H H1) : Same H (upd H1 D o) := fun b u e => by
  rw [upd_ne (ne_of_none e h)]
  exact s b u e
theorem extN_at {H H1 : Hp} {D : Addr} {o : HO} (h : H D = none) (s : LamX.ExtN H H1) : LamX.ExtN H (upd H1 D o) := fun b u e n => by
  rw [upd_ne (ne_of_none e h)]
  exact s b u e n
theorem fix_at {H H1 : Hp} {D : Addr} {o : HO} (h : H D = none) (s : Fix H H1) : Fix H (upd H1 D o) := fun b u e n => by
  rw [upd_ne (ne_of_none e h)]
  exact s b u e n
theorem but_at {d : Addr} {H H1 : Hp} {D : Addr} {o : HO} (h : H D = none) (s : But d H H1) : But d H (upd H1 D o) := fun b u n e => by
  rw [upd_ne (ne_of_none e h)]
  exact s b u n e
section
variable {K : PySem.W.Frag} {H H' : Hp}
theorem Fix.seqL {a : Addr} {xs : List V} (f : Fix H H') (h : SqL K H a xs) : SqL K H' a xs := by
  rcases h with (h | ⟨o, h⟩) | h
  · exact .inl (.inl (f _ _ h True.intro))
  · exact .inl (.inr ⟨o, f _ _ h True.intro⟩)
  · exact .inr h
theorem Fix.seqT {a : Addr} {xs : List V} (f : Fix H H') (h : SqT K H a xs) : SqT K H' a xs := by
  rcases h with (h | ⟨o, h⟩) | h
  · exact .inl (.inl (f _ _ h True.intro))
  · exact .inl (.inr ⟨o, f _ _ h True.intro⟩)
  · exact .inr h
mutual
theorem Dp.fix (f : Fix H H') : ∀ (d : PyData) (v : V), Dp K H v d → Dp K H' v d
  | .none, _, h => by cases h; exact .non
  | .bool b, _, h => by cases h; exact .bl b
  | .int i, _, h => by cases h; exact .int i
  | .str x, _, h => by cases h; exact .str x
  | .list ds, _, h => by
    cases h with
    | lst a b => exact .lst (f.seqL a) (DpAll.fix f ds _ b)
  | .tuple ds, _, h => by
    cases h with
    | tup a b => exact .tup (f.seqT a) (DpAll.fix f ds _ b)
  | .dict _, _, h => nomatch h
theorem DpAll.fix (f : Fix H H') : ∀ (ds : List PyData) (vs : List V), DpAll K H vs ds → DpAll K H' vs ds
  | [], _, h => by cases h; exact .nil
  | d :: ds, _, h => by
    cases h with
    | cons a b => exact .cons (Dp.fix f d _ a) (DpAll.fix f ds _ b)
end
theorem dpAll_len : ∀ {vs : List V} {ds : List PyData}, DpAll K H vs ds → vs.length = ds.length
  | _, _, .nil => rfl
  | _, _, .cons _ b => by rw [List.length_cons, List.length_cons, dpAll_len b]
theorem dpAll_get : ∀ {vs : List V} {ds : List PyData} {i : Nat} {d : PyData}, DpAll K H vs ds → ds[i]? = some d → ∃ v, vs[i]? = some v ∧ Dp K H v d
  | _, _, _, _, .nil, e => by simp at e
  | _, _, 0, _, .cons a b, e => by
    have e : _ = _ := Option.some.inj e
    subst e
    exact ⟨_, rfl, a⟩
  | _, _, i + 1, d, .cons a b, e => dpAll_get (i := i) (d := d) b e
theorem dpAll_at : ∀ {vs : List V} {ds : List PyData} {i : Nat} {v : V}, DpAll K H vs ds → vs[i]? = some v → ∃ d, ds[i]? = some d ∧ Dp K H v d
  | _, _, _, _, .nil, e => by simp at e
  | _, _, 0, _, .cons a b, e => by
    have e : _ = _ := Option.some.inj e
    subst e
    exact ⟨_, rfl, a⟩
  | _, _, i + 1, d, .cons a b, e => dpAll_at (i := i) (v := d) b e
theorem dpAll_app : ∀ {vs us : List V} {ds es : List PyData}, DpAll K H vs ds → DpAll K H us es → DpAll K H (vs ++ us) (ds ++ es)
  | _, _, _, _, .nil, h => h
  | _, _, _, _, .cons a b, h => .cons a (dpAll_app b h)
theorem dpAll_one {v : V} {d : PyData} (h : Dp K H v d) : DpAll K H [v] [d] := .cons h .nil
theorem dpAll_snoc {vs : List V} {ds : List PyData} {v : V} {d : PyData} (h : DpAll K H vs ds) (h2 : Dp K H v d) : DpAll K H (vs ++ [v]) (ds ++ [d]) := dpAll_app h (dpAll_one h2)
theorem dpAll_take : ∀ {vs : List V} {ds : List PyData} (n : Nat), DpAll K H vs ds → DpAll K H (vs.take n) (ds.take n)
  | _, _, 0, _ => .nil
  | _, _, _ + 1, .nil => .nil
  | _, _, n + 1, .cons a b => .cons a (dpAll_take n b)
theorem dpAll_drop : ∀ {vs : List V} {ds : List PyData} (n : Nat), DpAll K H vs ds → DpAll K H (vs.drop n) (ds.drop n)
  | _, _, 0, h => h
  | _, _, _ + 1, .nil => .nil
  | _, _, n + 1, .cons a b => dpAll_drop n b
theorem dp_int {v : V} {i : Int} (h : Dp K H v (.int i)) : v = .int i := by cases h; rfl
theorem dp_str {v : V} {x : Str} (h : Dp K H v (.str x)) : v = .str x := by cases h; rfl
theorem dp_tup {v : V} {ds : List PyData} (h : Dp K H v (.tuple ds)) : ∃ a xs, v = .ref a ∧ SqT K H a xs ∧ DpAll K H xs ds := by
  cases h with
  | tup a b => exact ⟨_, _, rfl, a, b⟩
theorem dp_lst {v : V} {ds : List PyData} (h : Dp K H v (.list ds)) : ∃ a xs, v = .ref a ∧ SqL K H a xs ∧ DpAll K H xs ds := by
  cases h with
  | lst a b => exact ⟨_, _, rfl, a, b⟩
theorem dpAll_ints : ∀ {ns : List Int} {vs : List V}, DpAll K H vs (ns.map PyData.int) → vs = ns.map V.int
  | [], _, h => by cases h; rfl
  | n :: ns, _, h => by
    cases h with
    | cons a b => rw [dp_int a, dpAll_ints b] <;> rfl
theorem ints_dpAll : ∀ (ns : List Int), DpAll K H (ns.map V.int) (ns.map PyData.int)
  | [] => .nil
  | n :: ns => .cons (.int n) (ints_dpAll ns)
theorem dpAll_ws : ∀ {ws : List W} {vs : List V}, DpAll K H vs (ws.map W.d) → vs = ws.map W.v
  | [], _, h => by cases h; rfl
  | .s x :: ws, _, h => by
    cases h with
    | cons a b => rw [dp_str a, dpAll_ws b] <;> rfl
  | .i n :: ws, _, h => by
    cases h with
    | cons a b => rw [dp_int a, dpAll_ws b] <;> rfl
theorem ws_dpAll : ∀ (ws : List W), DpAll K H (ws.map W.v) (ws.map W.d)
  | [] => .nil
  | .s x :: ws => .cons (.str x) (ws_dpAll ws)
  | .i n :: ws => .cons (.int n) (ws_dpAll ws)
theorem dp_ints {v : V} {ns : List Int} (h : Dp K H v (dInts ns)) : ∃ a, v = .ref a ∧ SqT K H a (ns.map V.int) := by
  obtain ⟨a, xs, e, s, d⟩ := dp_tup h
  rw [dpAll_ints d] at s
  exact ⟨a, e, s⟩
theorem ints_dp {a : Addr} {ns : List Int} (h : SqT K H a (ns.map V.int)) : Dp K H (.ref a) (dInts ns) := .tup h (ints_dpAll ns)
theorem dp_ws {v : V} {ws : List W} (h : Dp K H v (wsD ws)) : ∃ a, v = .ref a ∧ SqT K H a (ws.map W.v) := by
  obtain ⟨a, xs, e, s, d⟩ := dp_tup h
  rw [dpAll_ws d] at s
  exact ⟨a, e, s⟩
theorem ws_dp {a : Addr} {ws : List W} (h : SqT K H a (ws.map W.v)) : Dp K H (.ref a) (wsD ws) := .tup h (ws_dpAll ws)
theorem sqT_new {p : Addr} {xs : List V} : SqT K (upd H p (.tup xs)) p xs := .inl (.inl upd_same)
theorem sqL_new {p : Addr} {xs : List V} : SqL K (upd H p (.lst xs)) p xs := .inl (.inl upd_same)
theorem sqT_of {p : Addr} {xs : List V} (h : H p = some (.tup xs)) : SqT K H p xs := .inl (.inl h)
theorem sqL_of {p : Addr} {xs : List V} (h : H p = some (.lst xs)) : SqL K H p xs := .inl (.inl h)
end
end K33
/-! The text by places; the head: facts by names, the run. Written by genhead.py. -/
namespace K33
open PySem PySem.Spec PyProof.Rows L2
def top (i : Nat) : Stmt := PySem.Challenge.pw_faderscenes_k33_whole_texts_of_shows.main.body.getD i (.Pass ⟨0, 0, 0, 0⟩)
abbrev s_is_integer : Stmt := top 5
abbrev s_is_whole : Stmt := top 6
abbrev s_is_some : Stmt := top 25
abbrev s_is_rising : Stmt := top 26
abbrev s_need_list : Stmt := top 27
abbrev s_is_next : Stmt := top 28
abbrev s_is_gang : Stmt := top 29
abbrev s_is_deed : Stmt := top 30
abbrev s_is_part : Stmt := top 31
abbrev s_is_scene : Stmt := top 32
abbrev s_need_show : Stmt := top 33
abbrev s_integer_in : Stmt := top 46
abbrev s_integer_text : Stmt := top 47
abbrev s_words_text : Stmt := top 48
abbrev s_show_text : Stmt := top 49
abbrev s_entry_in : Stmt := top 51
abbrev s_scene_in : Stmt := top 52
abbrev s_read_show : Stmt := top 53
abbrev s_law_begin : Stmt := top 55
abbrev s_law_next : Stmt := top 56
abbrev s_law_pick : Stmt := top 57
abbrev s_law_some : Stmt := top 58
abbrev s_law_deed : Stmt := top 59
abbrev s_law_scene : Stmt := top 60
abbrev s_law_tame : Stmt := top 61
abbrev s_law_show : Stmt := top 62
abbrev s_law_show_text : Stmt := top 63
abbrev s_law : Stmt := top 64
abbrev s_Lines_init : Stmt := inClass (top 50) 0
abbrev s_Lines_word : Stmt := inClass (top 50) 1
abbrev s_Lines_need : Stmt := inClass (top 50) 2
abbrev s_Lines_integers : Stmt := inClass (top 50) 3
abbrev s_Lines_some : Stmt := inClass (top 50) 4
abbrev s_Lines_one : Stmt := inClass (top 50) 5
def defD (x : Str) (st : Stmt) : He.DefD := ⟨(x, none), x, x, defArgs st, defBody st, defScope st, [], []⟩
def metD (x q : Str) (st : Stmt) : He.DefD := ⟨("Lines", some x), x, q, defArgs st, defBody st, defScope st, [], []⟩
def fn : List He.DefD := [defD "is_integer" s_is_integer, defD "is_whole" s_is_whole, defD "is_some" s_is_some, defD "is_rising" s_is_rising, defD "need_list" s_need_list, defD "is_next" s_is_next, defD "is_gang" s_is_gang, defD "is_deed" s_is_deed, defD "is_part" s_is_part, defD "is_scene" s_is_scene, defD "need_show" s_need_show, defD "integer_in" s_integer_in, defD "integer_text" s_integer_text, defD "words_text" s_words_text, defD "show_text" s_show_text, defD "entry_in" s_entry_in, defD "scene_in" s_scene_in, defD "read_show" s_read_show, defD "_law_begin" s_law_begin, defD "_law_next" s_law_next, defD "_law_pick" s_law_pick, defD "_law_some" s_law_some, defD "_law_deed" s_law_deed, defD "_law_scene" s_law_scene, defD "_law_tame" s_law_tame, defD "_law_show" s_law_show, defD "_law_show_text" s_law_show_text, defD "law" s_law,
  metD "__init__" "Lines.__init__" s_Lines_init, metD "word" "Lines.word" s_Lines_word, metD "need" "Lines.need" s_Lines_need, metD "integers" "Lines.integers" s_Lines_integers, metD "some" "Lines.some" s_Lines_some, metD "one" "Lines.one" s_Lines_one]
def fa : List He.Fa := [.glo "is_integer", .glo "is_whole", .glo "is_some", .glo "is_rising", .glo "need_list", .glo "is_next", .glo "is_gang", .glo "is_deed",
  .glo "is_part", .glo "is_scene", .glo "need_show", .glo "integer_in", .glo "integer_text", .glo "words_text", .glo "show_text", .glo "entry_in",
  .glo "scene_in", .glo "read_show", .glo "_law_begin", .glo "_law_next", .glo "_law_pick", .glo "_law_some", .glo "_law_deed", .glo "_law_scene",
  .glo "_law_tame", .glo "_law_show", .glo "_law_show_text", .glo "law", .glo "Lines", .free "isinstance", .free "int", .free "bool",
  .free "tuple", .free "len", .free "all", .free "zip", .free "range", .free "any", .free "str", .free "list",
  .free "sorted", .free "repr", .int "MOST_STRIPS" 6, .int "MOST_GROUPS" 3, .int "MOST_GANGS" 4, .int "MOST_LINES" 9, .int "MOST_SAFES" 3, .int "MOST_SCENES" 6,
  .int "MOST_ENTRIES" 12, .int "MOST_LIST" 8, .int "MOST_KEPT" 12, .int "MOST_SET" 1000000, .int "MOST_DIGITS" 7, .str "FADER" "fader", .str "MUTE" "mute", .str "TO" "to",
  .str "BY" "by", .str "TURN" "turn", .str "KEPT" "kept", .str "AS" "as", .str "BLANK" " ", .str "LINE" "\n", .str "DIGITS" "0123456789", .str "STRIPS" "strips",
  .str "GROUP" "group", .str "GANG" "gang", .str "HANDS" "hands", .str "SAFES" "safes", .str "SCENE" "scene", .str "LIST" "list", .cls "Lines", .mkr "Lines",
  .meth "Lines" "__init__", .meth "Lines" "word", .meth "Lines" "need", .meth "Lines" "integers", .meth "Lines" "some", .meth "Lines" "one", .noat "Lines" "lines_so", .noat "Lines" "at"]
def tf : List He.Defn := [("need_show", none)]
def loose1 : List PySem.Str := [("SceneError" : PySem.Str), ("BadShow" : PySem.Str), ("BadText" : PySem.Str), ("is_integer" : PySem.Str), ("is_whole" : PySem.Str), ("is_some" : PySem.Str), ("is_rising" : PySem.Str), ("need_list" : PySem.Str), ("is_next" : PySem.Str), ("is_gang" : PySem.Str), ("is_deed" : PySem.Str), ("is_part" : PySem.Str), ("is_scene" : PySem.Str), ("need_show" : PySem.Str), ("integer_in" : PySem.Str), ("integer_text" : PySem.Str), ("words_text" : PySem.Str), ("show_text" : PySem.Str), ("entry_in" : PySem.Str), ("scene_in" : PySem.Str), ("read_show" : PySem.Str), ("_law_begin" : PySem.Str), ("_law_next" : PySem.Str), ("_law_pick" : PySem.Str), ("_law_some" : PySem.Str), ("_law_deed" : PySem.Str), ("_law_scene" : PySem.Str), ("_law_tame" : PySem.Str), ("_law_show" : PySem.Str), ("_law_show_text" : PySem.Str), ("Lines" : PySem.Str), ("MOST_STRIPS" : PySem.Str), ("MOST_GROUPS" : PySem.Str), ("MOST_GANGS" : PySem.Str), ("MOST_LINES" : PySem.Str)]
def loose2 : List PySem.Str := [("MOST_SAFES" : PySem.Str), ("MOST_SCENES" : PySem.Str), ("MOST_ENTRIES" : PySem.Str), ("MOST_LIST" : PySem.Str), ("MOST_KEPT" : PySem.Str), ("MOST_SET" : PySem.Str), ("MOST_DIGITS" : PySem.Str), ("FADER" : PySem.Str), ("MUTE" : PySem.Str), ("TO" : PySem.Str), ("BY" : PySem.Str), ("TURN" : PySem.Str), ("KEPT" : PySem.Str), ("AS" : PySem.Str), ("BLANK" : PySem.Str), ("LINE" : PySem.Str), ("DIGITS" : PySem.Str), ("STRIPS" : PySem.Str), ("GROUP" : PySem.Str), ("GANG" : PySem.Str), ("HANDS" : PySem.Str), ("SAFES" : PySem.Str), ("SCENE" : PySem.Str), ("LIST" : PySem.Str)]
abbrev R : PySem.W.OpenRow := PySem.W.OpenLaw.row PySem.Challenge.rw_faderscenes_k33_whole_texts_of_shows
abbrev hk : PySem.W.Hook := He.hookX 5 fa fn [] tf (fun _ => true)
def ob (s : PySem.W.SharedT) : He.AlX := He.obsX 5 fa fn [] tf (fun _ => true) (HandSHeadRun.getT s)
theorem ob_eq (s : PySem.W.SharedT) : ob s = hk.obs s.abs := He.obsX_eq (HandSHeadRun.getT_eq s)
theorem head_run (w : World) : HandSHeadRun.RunEq R (PySem.W.view R.prog [64]) hk ob 4000 (loose1 ++ loose2) w := by
  intro os
  kernel_rfl
end K33
/-! Rules of our own: list + list (one of them locked), a call by keywords alone, the order of tuples, sorted of a tuple of tuples, repr of data, zip of two tuples. -/
namespace K33
open PySem PySem.Spec PyProof.Rows L2
section
variable {X : Cx}
/-! ### list + list, read only -/
def rCatL (K : PySem.W.Frag) : R2 := fun x y H Q => ∃ l b xs zs, x = .ref l ∧ y = .ref b ∧ SqL K H l xs ∧ SqL K H b zs ∧ xs.length + zs.length ≤ sizeLine ∧ ∀ p, H p = none → Q (.ref p) (upd H p (.lst (xs ++ zs)))
theorem op_catL : OpR X (binaryOp .Add) (rCatL X.K) := by
  intro pins s σ H x y v u Q I rx ry h
  obtain ⟨l, b, xs, zs, rfl, rfl, hl, hb, hz, q⟩ := h
  cases rx
  cases ry
  obtain ⟨its, r1, ⟨⟨c1, dd1, dt1, sl1⟩, n1, g1, k1, _, e1⟩, _⟩ := I.list hl
  obtain ⟨its2, r2, ⟨⟨c2, dd2, dt2, sl2⟩, n2, g2, k2, _, e2⟩, _⟩ := I.list hb
  dsimp only at k1 e1 k2 e2
  subst k1 e1 k2 e2
  have l1 := r1.length
  have l2 := r2.length
  have hsz : its.toArray.size + its2.toArray.size ≤ sizeLine := by
    rw [List.size_toArray, List.size_toArray, ← l1, ← l2]
    exact hz
  have ea : its.toArray ++ its2.toArray = (its ++ its2).toArray := by simp
  refine concat_meets ⟨_, g1, rfl⟩ ⟨_, g2, rfl⟩ noFill_list_add seq_list_add PySem.F.slot_list_add PySem.F.entry_list_add (PySem.F.args_list_add_2 _ _) (list_addW l b its.toArray its2.toArray n1 n2 dd1 dd2 sl1 sl2 hsz) ⟨g1, g2, ?_⟩
  rw [ea]
  exact ⟨.ref _, _, I.lnew (t' := s.toks) (r1.append r2) (by rw [List.length_append]; exact hz), rfl, q _ I.fresh⟩

/-! ### f(k = v, ..) -/
theorem pe_callK0 {CX : CXT} {k : Nat} {f : Addr} {fd : FuncData} {ps ks : List Str} {sp : Sp} {E : XK} {x : Str} {p pos : Pos} {kws : List Keyword} {tk : TA} {g : List Value → List Value → List Value} {gV : List V → List V → List V}
    (F : FnOk X.prog X.w X.K X.mg X.base CX k f fd ps sp) (hr : Room k X.A) (hg : Gl X x) (hm : X.mg x = some (.ref f)) (hk : PySem.W.keepIn X.K (.ref f) = true) (hb : KBinds X.K fd ps ks g gV) (hx : Passes CX X E) (hkw : PK X kws tk)
    (hall : (backToKw pos (keywordEach kws X.env)).all (·.1.isSome) = true := by rfl) (hks : (backToKw pos (keywordEach kws X.env)).filterMap (·.1) = ks := by rfl) (hdb : (x == ("__debug__" : Str)) = false := by decide)
    (hpl : ((backTo pos (starEach [] X.env)).any (·.1) || (backToKw pos (keywordEach kws X.env)).any (·.1.isNone)) = false := by rfl) :
    PE X (.Call (.Name x p) [] kws pos) (tCallK sp gV E tNil tk) := by
  refine ⟨fun pins s σ H Q I h => ?_⟩
  refine wpAny_Call_Name_kw (ld_glob I hg hm ?_ hdb)
  refine PySem.W.callWith_KW0 (h₀ := X.base) I.ok.mod.kin hk hall ?_ hpl
  refine thn (hkw.run pos pins s σ H _ I h) fun ws s2 hz => ?_
  obtain ⟨zs, H2, I2, rz, q2⟩ := hz
  refine ⟨I2.kIn, ?_⟩
  rw [hks]
  exact run_fnk (us := []) (vs := []) F hr hb hx I2 .nil rz q2

/-! ### the order of tuples -/
def rLtD (K : PySem.W.Frag) : R2 := fun x y H Q => ∃ d e, Dp K H x d ∧ Dp K H y e ∧ PySem.W.alike d e = true ∧ d ≠ .none ∧ d.depth ≤ 8 ∧ Q (.bl (PySem.W.dataLt d e)) H
theorem op_ltD (hu : X.A.units + 64 < cLine) : OpR X (compareOp .Lt) (rLtD X.K) := by
  intro pins s σ H x y v u Q I rx ry h
  obtain ⟨d, e, hd, he, hal, hn, hdp, q⟩ := h
  obtain ⟨as, r1⟩ := Dp.reads I d x v hd rx
  obtain ⟨bs, r2⟩ := Dp.reads I e y u he ry
  have hm : min d.depth e.depth ≤ d.depth := Nat.min_le_left _ _
  have z : wpAny (model X.prog X.w) X.A (compareOp .Lt v u) (EP X pins σ Q) X.xe s := PySem.W.rcLt_alike d e X.A s v u as bs r1 r2 hal hn (by omega) X.prog X.w X.xe (EP X pins σ Q) ⟨.bl _, H, I, rfl, q⟩
  exact z
/-- >= of two tuples of numbers -/
def geL : List Int → List Int → Bool
  | _, [] => true
  | [], _ :: _ => false
  | x :: xs, y :: ys => if x = y then geL xs ys else decide (y ≤ x)
theorem lexAt_shift {e r : Nat → Bool} {z : Bool} : ∀ (k i : Nat), Ob.lexAt e r z (i + 1) k = Ob.lexAt (fun j => e (j + 1)) (fun j => r (j + 1)) z i k
  | 0, _ => rfl
  | k + 1, i => by
    rw [Ob.lexAt_succ, Ob.lexAt_succ, lexAt_shift k (i + 1)]
theorem lexAt_geL : ∀ (ns ms : List Int), Ob.lexAt (fun j => decide (ns.getD j 0 = ms.getD j 0)) (fun j => decide (ms.getD j 0 ≤ ns.getD j 0)) (decide (ns.length ≥ ms.length)) 0 (min ns.length ms.length) = geL ns ms
  | ns, [] => by
    rw [show min ns.length ([] : List Int).length = 0 from Nat.min_zero _, Ob.lexAt_zero]
    show decide (ns.length ≥ 0) = geL ns []
    rw [decide_eq_true (Nat.zero_le _)]
    cases ns <;> rfl
  | [], y :: ys => by
    rw [show min ([] : List Int).length (y :: ys).length = 0 from Nat.zero_min _, Ob.lexAt_zero]
    show decide (0 ≥ ys.length + 1) = false
    exact decide_eq_false (by omega)
  | x :: xs, y :: ys => by
    have ih := lexAt_geL xs ys
    rw [show min (x :: xs).length (y :: ys).length = min xs.length ys.length + 1 by rw [List.length_cons, List.length_cons]; omega, Ob.lexAt_succ, lexAt_shift]
    have ez : decide ((x :: xs).length ≥ (y :: ys).length) = decide (xs.length ≥ ys.length) := by
      rw [List.length_cons, List.length_cons]
      by_cases h : xs.length ≥ ys.length
      · rw [decide_eq_true h, decide_eq_true (by omega)]
      · rw [decide_eq_false h, decide_eq_false (by omega)]
    show (if decide (x = y) = true then _ else decide (y ≤ x)) = (if x = y then geL xs ys else decide (y ≤ x))
    by_cases h : x = y
    · rw [if_pos (decide_eq_true h), if_pos h, ez]
      exact ih
    · rw [if_neg (by simp [h]), if_neg h]
theorem geL_lt : ∀ {ns ms : List Int}, ns < ms → geL ns ms = false
  | ns, [], h => absurd h (List.not_lt_nil _)
  | [], _ :: _, _ => rfl
  | x :: xs, y :: ys, h => by
    show (if x = y then geL xs ys else decide (y ≤ x)) = false
    rcases List.cons_lt_cons_iff.mp h with h | ⟨e, h⟩
    · rw [if_neg (by omega), decide_eq_false (by omega)]
    · rw [if_pos e, geL_lt h]
def rGeT (K : PySem.W.Frag) : R2 := fun x y H Q => ∃ (a b : Addr) (ns ms : List Int), x = .ref a ∧ y = .ref b ∧ SqT K H a (ns.map V.int) ∧ SqT K H b (ms.map V.int) ∧ Q (.bl (geL ns ms)) H
theorem op_geT (hu : X.A.units < cLine) : OpR X (compareOp .GtE) (rGeT X.K) := by
  intro pins s σ H x y v u Q I rx ry h
  obtain ⟨a, b, ns, ms, rfl, rfl, ha, hb, q⟩ := h
  cases rx
  cases ry
  obtain ⟨its, r1, p1, _⟩ := I.tuple ha
  obtain ⟨its2, r2, p2, _⟩ := I.tuple hb
  have i1 : IntsAre its ns := Vals.ints r1
  have i2 : IntsAre its2 ms := Vals.ints r2
  have e1 : its.toArray.size = ns.length := by
    rw [List.size_toArray]
    exact i1.length
  have e2 : its2.toArray.size = ms.length := by
    rw [List.size_toArray]
    exact i2.length
  have at1 : ∀ j (h1 : j < its.toArray.size), ∃ t, its.toArray[j] = .int (ns.getD j 0) t := fun j h1 => by
    refine PyProof.Rows.IntsAre.int_at i1 _ _ ?_
    have h3 : j < its.length := by simpa using h1
    simp [h3]
  have at2 : ∀ j (h1 : j < its2.toArray.size), ∃ t, its2.toArray[j] = .int (ms.getD j 0) t := fun j h1 => by
    refine PyProof.Rows.IntsAre.int_at i2 _ _ ?_
    have h3 : j < its2.length := by simpa using h1
    simp [h3]
  have tuples := Ob.RcOp.tuples_ge (A := X.A) (s := s) (e := fun j => decide (ns.getD j 0 = ms.getD j 0)) (r := fun j => decide (ms.getD j 0 ≤ ns.getD j 0)) p1 p2 hu (fun j h1 h2 => by
    obtain ⟨t, et⟩ := at1 j h1
    obtain ⟨t', et'⟩ := at2 j h2
    rw [et, et']
    have z := SeqAt.EqAt.int_int (A := X.A.in1) (s := s) (ns.getD j 0) t (ms.getD j 0) t'
    have e : (ns.getD j 0 == ms.getD j 0) = decide (ns.getD j 0 = ms.getD j 0) := by
      by_cases q : ns.getD j 0 = ms.getD j 0
      · rw [q, beq_self_eq_true, decide_eq_true rfl]
      · rw [decide_eq_false q]
        exact beq_eq_false_iff_ne.mpr q
    rw [← e]
    exact z) (fun j h1 h2 _ => by
    obtain ⟨t, et⟩ := at1 j h1
    obtain ⟨t', et'⟩ := at2 j h2
    rw [et, et']
    exact Ob.RcOp.ge_int _ _ _ _)
  rw [e1, e2, lexAt_geL] at tuples
  have z : wpAny (model X.prog X.w) X.A (compareOp .GtE (.ref a) (.ref b)) (EP X pins σ Q) X.xe s := tuples X.prog X.w X.xe (EP X pins σ Q) ⟨.bl _, H, I, rfl, q⟩
  exact z

/-! ### sorted of a tuple of tuples of numbers -/
theorem reads_ints {h : Heap} : ∀ {vs : List Value} {ns : List Int}, IntsAre vs ns → ReadsAll h vs (ns.map .int) []
  | _, _, .nil => .nil
  | _, _, .cons n t r => ReadsAll.cons (as := []) (bs := []) (Reads.int n t) (reads_ints r)
theorem sorted_tuple {prog : Program} {w : World} {A : Around} {E : Value → Shared → Prop} {s : Shared} {Rv : Value → List Int → Prop} {l : Addr} {vs : List Value} {bs : List (List Int)} {Q : Value → Shared → Prop} (hl : IsTup s.heap l vs.toArray) (e : PySem.W.EachIs Rv vs bs)
    (er : PySem.W.EachIs (fun v b => Reads s.heap v (dInts b) []) vs bs) (hn : ∀ b ∈ bs, b ≠ []) (hL : bs.length ≤ 1000) (hu : A.units + 64 < cLine)
    (h : ∀ h' out, (∀ b o, s.heap.get? b = some o → h'.get? b = some o) → PySem.W.EachIs Rv out (bs.mergeSort (PySem.W.dataLe false dInts)) → ∀ p n, s.heap.get? p = none → h'.get? p = some (seqObj "list" (List.toArray out) n) → Q (.ref p) { s with heap := h' }) :
    wpAny (model prog w) A (call (.builtin "sorted") [.ref l]) Q E s := by
  have hlen : vs.length = bs.length := e.length
  obtain ⟨o, ho, hc, n, hd⟩ := id hl
  refine Calls.call_function_entry kind_sorted plain_sorted entry_sorted (args_sorted1 _) ?_
  unfold Builtin.«sorted»
  refine wpAny_bind (m := checkCount "sorted" 1 1 _) (wpAny_pure ?_)
  have hz : vs.length ≤ sizeLine := Nat.le_trans (by omega : vs.length ≤ 1000) (by decide)
  refine wpAny_bind (wpAny_collect_seq l (.inr rfl) ho hc hd (fun h1 hk => ?_) (by rw [List.size_toArray]; exact hz))
  refine wpAny_bind (wpAny_newList ?_ hz)
  have hnew : s.heap.get? h1.objs.size = none := by
    cases q : s.heap.get? h1.objs.size with
    | none => rfl
    | some u => exact absurd (Heap.lt_size (hk _ _ q)) (Nat.lt_irrefl _)
  have hp : (h1.push (seqObj "list" vs.toArray 0)).get? h1.objs.size = some (seqObj "list" vs.toArray 0) := Heap.get?_push_size _ rfl
  have keep : ∀ b o, s.heap.get? b = some o → (h1.push (seqObj "list" vs.toArray 0)).get? b = some o := fun b o q => Heap.get?_push_of_some _ (hk b o q)
  refine wpAny_bind (wpAny_holding (wpAny_mono (PySem.W.list_sort_data (enc := dInts) (R := Rv) (s := { s with heap := h1.push (seqObj "list" vs.toArray 0) }) (Q := fun _ s' => Q (.ref h1.objs.size) s') hp e (er.mono fun v b r => ⟨[], PyProof.Rows.Reads.keeps keep r, by simp⟩)
    (PySem.W.AllAlike.of fun b b' => by
      show PySem.W.alike (.tuple (b.map .int)) (.tuple (b'.map .int)) = true
      rw [PySem.W.alike]
      exact PySem.W.alike_ints _ _) (.inl fun d hd => ?_) (Nat.le_trans hL (by decide)) (fun b hb => ?_) fun out hlo heo => ?_) (fun _ s' x => wpAny_pure ⟨_, rfl, x⟩) fun _ _ x => x))
  · obtain ⟨b, hb, rfl⟩ := List.mem_map.mp hd
    cases hb2 : b with
    | nil => exact absurd hb2 (hn b hb)
    | cons x r => exact ⟨_, _, rfl⟩
  · have hdp : (dInts b).depth = 1 := by
      show PyData.depth (.tuple (b.map .int)) = 1
      rw [PyData.depth, PySem.W.depth_ints]
    rw [hdp]
    show A.in1.units + 1 + 1 < cLine
    show A.units + 1 + 1 + 1 < cLine
    omega
  · obtain ⟨e1, he1⟩ := PyProof.Rows.sortedHeap_at (vs := vs) (out := out.toArray) hp
    refine h _ out (fun b o q => ?_) heo _ e1 hnew he1
    have hne : b ≠ h1.objs.size := fun z => by
      rw [z, hnew] at q
      cases q
    rw [PyProof.Rows.sortedHeap_old hne (Heap.lt_size (keep b o q))]
    exact keep b o q
theorem eachIs_dp {K : PySem.W.Frag} {H : Hp} : ∀ {us : List Value} {bs : List (List Int)}, PySem.W.EachIs (fun u b => ∃ y, RelV y u ∧ Dp K H y (dInts b)) us bs → ∃ ys, Vals ys us ∧ DpAll K H ys (bs.map dInts)
  | _, _, .nil => ⟨[], .nil, .nil⟩
  | _, _, .cons a r => by
    obtain ⟨y, r1, d1⟩ := a
    obtain ⟨ys, r2, d2⟩ := eachIs_dp r
    exact ⟨y :: ys, .cons r1 r2, .cons d1 d2⟩
theorem dp_eachIs {pins : List (Addr × Obj)} {σ : L2.St} {H : Hp} {s : Shared} (I : Inv X pins σ H s) : ∀ {xs : List V} {us : List Value} {bs : List (List Int)}, Vals xs us → DpAll X.K H xs (bs.map dInts) →
    PySem.W.EachIs (fun u b => ∃ y, RelV y u ∧ Dp X.K H y (dInts b)) us bs ∧ PySem.W.EachIs (fun u b => Reads s.heap u (dInts b) []) us bs
  | _, _, [], .nil, _ => ⟨.nil, .nil⟩
  | _, _, [], .cons _ _, h => nomatch h
  | _, _, _ :: _, .nil, h => nomatch h
  | _, _, b :: bs, .cons r rr, .cons d dd => by
    obtain ⟨h1, h2⟩ := dp_eachIs I rr dd
    refine ⟨.cons ⟨_, r, d⟩ h1, .cons ?_ h2⟩
    obtain ⟨a, rfl, hs⟩ := dp_ints d
    cases r
    obtain ⟨its, rv, ⟨o, ho, hc, n, hd⟩, _⟩ := I.tuple hs
    refine Reads.tuple ho hc hd ?_
    exact reads_ints (Vals.ints rv)
def rSortedTD (K : PySem.W.Frag) : List V → Hp → VK → Prop := fun vs H Q => ∃ (a : Addr) (xs : List V) (bs : List (List Int)), vs = [.ref a] ∧ SqT K H a xs ∧ DpAll K H xs (bs.map dInts) ∧ (∀ b ∈ bs, b ≠ []) ∧ bs.length ≤ 1000 ∧
  ∀ p ys, H p = none → DpAll K H ys ((bs.mergeSort (PySem.W.dataLe false dInts)).map dInts) → Q (.ref p) (upd H p (.lst ys))
theorem cr_sortedTD (hu : X.A.units + 64 < cLine) : CallR X (.builtin "sorted") (rSortedTD X.K) := by
  intro pins s σ H xs us Q I r h
  obtain ⟨a, ys, bs, rfl, hs, hd, hn, hL, q⟩ := h
  obtain ⟨u, rfl, hr⟩ := vals1 r
  cases hr
  obtain ⟨its, rv, p, _⟩ := I.tuple hs
  obtain ⟨e1, e2⟩ := dp_eachIs I rv hd
  refine sorted_tuple p e1 e2 hn hL hu fun h' out hk he pp n hnew hat => ?_
  obtain ⟨zs, rz, dz⟩ := eachIs_dp he
  have hnone : H pp = none := I.hok.gone hnew
  have hzl : zs.length ≤ sizeLine := by
    have l1 := dpAll_len dz
    rw [List.length_map, List.length_mergeSort] at l1
    rw [l1]
    exact Nat.le_trans hL (by decide)
  exact ⟨.ref pp, upd H pp (.lst zs), I.laidN (t' := s.toks) hk hnew hnone ⟨hzl, out, n, rz, hat⟩, rfl, q pp zs hnone dz⟩

/-! ### repr of data -/
def rReprD (K : PySem.W.Frag) : List V → Hp → VK → Prop := fun vs H Q => ∃ (a : Addr) (d : PyData), vs = [.ref a] ∧ Dp K H (.ref a) d ∧ d.showable = true ∧ d.hasDict = false ∧ d.depth ≤ 16 ∧ d.shown.length ≤ sizeLine ∧ Q (.str d.shown) H
theorem cr_reprD (hg : X.A.guards = some []) (hu : X.A.units + 64 < cLine) : CallR X (.builtin "repr") (rReprD X.K) := by
  intro pins s σ H xs us Q I r h
  obtain ⟨a, d, rfl, hd, hs, hn, hdp, hz, q⟩ := h
  obtain ⟨u, rfl, hr⟩ := vals1 r
  obtain ⟨as, r1⟩ := Dp.reads I d _ u hd hr
  cases hr
  exact repr_of_reads' r1 hs (PyData.noDict_hsm hn) hg (by omega) (fun _ _ e => e) (fun h' u tk hk => ⟨.str _, H, I.kept hk, ⟨_, rfl⟩, q⟩) hz

/-! ### zip of two tuples, walked -/
theorem walk_zipT {K : PySem.W.Frag} {a b : Addr} {xs ys : List V} {n : Nat} (hn : n = min xs.length ys.length) : Walk (RZ.ItzT K a b) n (fun H => SqT K H a xs ∧ SqT K H b ys) (YPair (fun i => xs[i]?) (fun i => ys[i]?)) := by
  subst hn
  refine ⟨fun i H hi q => ?_, fun _ q => ⟨xs, ys, q.1, q.2, by omega⟩, fun i H v H' _ q y => ?_⟩
  · have h1 : i < xs.length := by omega
    have h2 : i < ys.length := by omega
    exact ⟨xs, ys, xs[i], ys[i], q.1, q.2, List.getElem?_eq_getElem h1, List.getElem?_eq_getElem h2⟩
  · obtain ⟨T, x, z, h1, h2, h3, h4, h5⟩ := y
    exact ⟨T, x, z, h1, h2, h3, h4 xs q.1, h5 ys q.2⟩
end
end K33
/-! What the defs' proofs take from the head, by names. Written by gentxt.py. -/
namespace K33
open PySem PySem.Spec PyProof.Rows L2
/-- the written part: the facts, the defs -/
structure Txt (K : PySem.W.Frag) (mg : Str → Option Value) : Prop where
  says : He.SaysD fa fn K
  heap : ∃ h : Heap, K.In h ∧ h.Ns mainGlobals mg
section
variable {P : Program} {w : World} {K : PySem.W.Frag} {mg : Str → Option Value} {base : Heap}
theorem Txt.glo (T : Txt K mg) (x : Str) (i : Nat) (h : fa[i]? = some (.glo x)) : mg x = some (.ref (He.ga K x)) := by
  obtain ⟨hp, a, b⟩ := T.heap
  exact He.glo_ok a b (T.says.fact i h)
theorem Txt.fr (T : Txt K mg) (x : Str) (i : Nat) (h : fa[i]? = some (.free x)) : mg x = none := by
  obtain ⟨hp, a, b⟩ := T.heap
  exact He.free_ok a b (T.says.fact i h)
theorem Txt.int (T : Txt K mg) (x : Str) (n : Int) (i : Nat) (h : fa[i]? = some (.int x n)) : ∃ u, mg x = some u ∧ RelV (.int n) u := by
  obtain ⟨hp, a, b⟩ := T.heap
  obtain ⟨t, e⟩ := He.int_ok a b (T.says.fact i h)
  exact ⟨_, e, t, rfl⟩
theorem Txt.str (T : Txt K mg) (x z : Str) (i : Nat) (h : fa[i]? = some (.str x z)) : ∃ u, mg x = some u ∧ RelV (.str z) u := by
  obtain ⟨hp, a, b⟩ := T.heap
  obtain ⟨t, e⟩ := He.str_ok a b (T.says.fact i h)
  exact ⟨_, e, t, rfl⟩
/-- a def by its body -/
theorem Txt.cal (T : Txt K mg) {x : Str} {st : Stmt} {N ps : List Str} {k : Nat} {sp : Sp} (i j : Nat) (hi : fn[i]? = some (defD x st)) (hj : fa[j]? = some (.glo x)) (S : FnScope N ps (defScope st))
    (hb : ∀ (kV doc pm : Value) (an : Option Addr) (cdv ct : Value) (us : List Value), us.length = ps.length → bindArgs (PySem.W.fnOf x x (defArgs st) (defBody st) (defScope st) .none kV doc pm an cdv ct) ⟨us, []⟩ = pure (ps.zip us))
    (len : ∀ vs H Q E, sp vs H Q E → vs.length = ps.length)
    (hbody : ∀ (f : Addr) (cdv : Value) (A : Around) (outer : List Env) (s : Shared) (H : Hp) (vs : List V) (Q : VK) (E : XK), Room k (A.deeper (envOfC x (defScope st) s.heap.objs.size f cdv)) → sp vs H Q E →
      ∃ t, PSs (cxOf C8.CX0 P w K mg base N x (defScope st) f cdv A outer s H E).nox (defBody st) t ∧ t { nx := fun _ H' => Q .non H', rt := Q } (L2.start N vs) H) : C8.Cal P w K mg base (k + 1) x sp [] := by
  obtain ⟨fd, F⟩ := T.says.def_ i (d := defD x st) hi
  refine ⟨_, fd, ps, [], F.ok S len (fun cdv A outer s H vs Q E hr hs => ?_), T.glo x j hj, F.kp, F.bindsN hb, .nil⟩
  obtain ⟨t, h1, h2⟩ := hbody _ cdv A outer s H vs Q E hr hs
  exact ⟨t, h1.nox, h2⟩
/-- a method of Lines by its body -/
theorem Txt.met (T : Txt K mg) {x q : Str} {st : Stmt} {N ps : List Str} {k : Nat} {sp : Sp} (i j c : Nat) (hi : fn[i]? = some (metD x q st)) (hj : fa[j]? = some (.meth "Lines" x)) (hc : fa[c]? = some (.cls "Lines")) (S : FnScope N ps (defScope st))
    (hb : ∀ (kV doc pm : Value) (an : Option Addr) (cdv ct : Value) (us : List Value), us.length = ps.length → bindArgs (PySem.W.fnOf x q (defArgs st) (defBody st) (defScope st) .none kV doc pm an cdv ct) ⟨us, []⟩ = pure (ps.zip us))
    (len : ∀ vs H Q E, sp vs H Q E → vs.length = ps.length)
    (hbody : ∀ (f : Addr) (cdv : Value) (A : Around) (outer : List Env) (s : Shared) (H : Hp) (vs : List V) (Q : VK) (E : XK), Room k (A.deeper (envOfC q (defScope st) s.heap.objs.size f cdv)) → sp vs H Q E →
      ∃ t, PSs (cxOf C8.CX0 P w K mg base N q (defScope st) f cdv A outer s H E).nox (defBody st) t ∧ t { nx := fun _ H' => Q .non H', rt := Q } (L2.start N vs) H) : C8.Met P w K mg base (k + 1) (He.ga K "Lines") x sp [] := by
  obtain ⟨fd, F⟩ := T.says.def_ i (d := metD x q st) hi
  refine ⟨_, fd, ps, [], He.cls_ok (T.says.fact c hc), He.meth_ok (T.says.fact j hj), F.ok S len (fun cdv A outer s H vs Q E hr hs => ?_), F.bindsN hb, .nil⟩
  obtain ⟨t, h1, h2⟩ := hbody _ cdv A outer s H vs Q E hr hs
  exact ⟨t, h1.nox, h2⟩
/-- the class Lines, made -/
theorem Txt.mak (T : Txt K mg) {st : Stmt} {N ps : List Str} {k : Nat} {sp : Sp} (i j c : Nat) (hi : fn[i]? = some (metD "__init__" "Lines.__init__" st)) (hj : fa[j]? = some (.mkr "Lines")) (hc : fa[c]? = some (.glo "Lines")) (S : FnScope N ps (defScope st))
    (hb : ∀ (kV doc pm : Value) (an : Option Addr) (cdv ct : Value) (us : List Value), us.length = ps.length → bindArgs (PySem.W.fnOf "__init__" "Lines.__init__" (defArgs st) (defBody st) (defScope st) .none kV doc pm an cdv ct) ⟨us, []⟩ = pure (ps.zip us))
    (len : ∀ vs H Q E, sp vs H Q E → vs.length = ps.length)
    (hbody : ∀ (f : Addr) (cdv : Value) (A : Around) (outer : List Env) (s : Shared) (H : Hp) (vs : List V) (Q : VK) (E : XK), Room k (A.deeper (envOfC "Lines.__init__" (defScope st) s.heap.objs.size f cdv)) → sp vs H Q E →
      ∃ t, PSs (cxOf C8.CX0 P w K mg base N "Lines.__init__" (defScope st) f cdv A outer s H E).nox (defBody st) t ∧ t { nx := fun _ H' => Q .non H', rt := Q } (L2.start N vs) H) : C8.Mak P w K mg base (k + 1) "Lines" (He.ga K "Lines") sp [] := by
  obtain ⟨fd, F⟩ := T.says.def_ i (d := metD "__init__" "Lines.__init__" st) hi
  refine ⟨_, fd, ps, [], He.mkr_ok (T.says.fact j hj), F.ok S len (fun cdv A outer s H vs Q E hr hs => ?_), T.glo "Lines" c hc, F.bindsN hb, .nil⟩
  obtain ⟨t, h1, h2⟩ := hbody _ cdv A outer s H vs Q E hr hs
  exact ⟨t, h1.nox, h2⟩
theorem Txt.m_isinstance (T : Txt K mg) : mg "isinstance" = none := T.fr _ 29 rfl
theorem Txt.m_int (T : Txt K mg) : mg "int" = none := T.fr _ 30 rfl
theorem Txt.m_bool (T : Txt K mg) : mg "bool" = none := T.fr _ 31 rfl
theorem Txt.m_tuple (T : Txt K mg) : mg "tuple" = none := T.fr _ 32 rfl
theorem Txt.m_len (T : Txt K mg) : mg "len" = none := T.fr _ 33 rfl
theorem Txt.m_all (T : Txt K mg) : mg "all" = none := T.fr _ 34 rfl
theorem Txt.m_zip (T : Txt K mg) : mg "zip" = none := T.fr _ 35 rfl
theorem Txt.m_range (T : Txt K mg) : mg "range" = none := T.fr _ 36 rfl
theorem Txt.m_any (T : Txt K mg) : mg "any" = none := T.fr _ 37 rfl
theorem Txt.m_str (T : Txt K mg) : mg "str" = none := T.fr _ 38 rfl
theorem Txt.m_list (T : Txt K mg) : mg "list" = none := T.fr _ 39 rfl
theorem Txt.m_sorted (T : Txt K mg) : mg "sorted" = none := T.fr _ 40 rfl
theorem Txt.m_repr (T : Txt K mg) : mg "repr" = none := T.fr _ 41 rfl
theorem Txt.MOST_STRIPS (T : Txt K mg) : ∃ u, mg "MOST_STRIPS" = some u ∧ RelV (.int 6) u := T.int _ _ 42 rfl
theorem Txt.MOST_GROUPS (T : Txt K mg) : ∃ u, mg "MOST_GROUPS" = some u ∧ RelV (.int 3) u := T.int _ _ 43 rfl
theorem Txt.MOST_GANGS (T : Txt K mg) : ∃ u, mg "MOST_GANGS" = some u ∧ RelV (.int 4) u := T.int _ _ 44 rfl
theorem Txt.MOST_LINES (T : Txt K mg) : ∃ u, mg "MOST_LINES" = some u ∧ RelV (.int 9) u := T.int _ _ 45 rfl
theorem Txt.MOST_SAFES (T : Txt K mg) : ∃ u, mg "MOST_SAFES" = some u ∧ RelV (.int 3) u := T.int _ _ 46 rfl
theorem Txt.MOST_SCENES (T : Txt K mg) : ∃ u, mg "MOST_SCENES" = some u ∧ RelV (.int 6) u := T.int _ _ 47 rfl
theorem Txt.MOST_ENTRIES (T : Txt K mg) : ∃ u, mg "MOST_ENTRIES" = some u ∧ RelV (.int 12) u := T.int _ _ 48 rfl
theorem Txt.MOST_LIST (T : Txt K mg) : ∃ u, mg "MOST_LIST" = some u ∧ RelV (.int 8) u := T.int _ _ 49 rfl
theorem Txt.MOST_KEPT (T : Txt K mg) : ∃ u, mg "MOST_KEPT" = some u ∧ RelV (.int 12) u := T.int _ _ 50 rfl
theorem Txt.MOST_SET (T : Txt K mg) : ∃ u, mg "MOST_SET" = some u ∧ RelV (.int 1000000) u := T.int _ _ 51 rfl
theorem Txt.MOST_DIGITS (T : Txt K mg) : ∃ u, mg "MOST_DIGITS" = some u ∧ RelV (.int 7) u := T.int _ _ 52 rfl
theorem Txt.FADER (T : Txt K mg) : ∃ u, mg "FADER" = some u ∧ RelV (.str "fader") u := T.str _ _ 53 rfl
theorem Txt.MUTE (T : Txt K mg) : ∃ u, mg "MUTE" = some u ∧ RelV (.str "mute") u := T.str _ _ 54 rfl
theorem Txt.TO (T : Txt K mg) : ∃ u, mg "TO" = some u ∧ RelV (.str "to") u := T.str _ _ 55 rfl
theorem Txt.BY (T : Txt K mg) : ∃ u, mg "BY" = some u ∧ RelV (.str "by") u := T.str _ _ 56 rfl
theorem Txt.TURN (T : Txt K mg) : ∃ u, mg "TURN" = some u ∧ RelV (.str "turn") u := T.str _ _ 57 rfl
theorem Txt.KEPT (T : Txt K mg) : ∃ u, mg "KEPT" = some u ∧ RelV (.str "kept") u := T.str _ _ 58 rfl
theorem Txt.AS (T : Txt K mg) : ∃ u, mg "AS" = some u ∧ RelV (.str "as") u := T.str _ _ 59 rfl
theorem Txt.BLANK (T : Txt K mg) : ∃ u, mg "BLANK" = some u ∧ RelV (.str " ") u := T.str _ _ 60 rfl
theorem Txt.LINE (T : Txt K mg) : ∃ u, mg "LINE" = some u ∧ RelV (.str "\n") u := T.str _ _ 61 rfl
theorem Txt.DIGITS (T : Txt K mg) : ∃ u, mg "DIGITS" = some u ∧ RelV (.str "0123456789") u := T.str _ _ 62 rfl
theorem Txt.STRIPS (T : Txt K mg) : ∃ u, mg "STRIPS" = some u ∧ RelV (.str "strips") u := T.str _ _ 63 rfl
theorem Txt.GROUP (T : Txt K mg) : ∃ u, mg "GROUP" = some u ∧ RelV (.str "group") u := T.str _ _ 64 rfl
theorem Txt.GANG (T : Txt K mg) : ∃ u, mg "GANG" = some u ∧ RelV (.str "gang") u := T.str _ _ 65 rfl
theorem Txt.HANDS (T : Txt K mg) : ∃ u, mg "HANDS" = some u ∧ RelV (.str "hands") u := T.str _ _ 66 rfl
theorem Txt.SAFES (T : Txt K mg) : ∃ u, mg "SAFES" = some u ∧ RelV (.str "safes") u := T.str _ _ 67 rfl
theorem Txt.SCENE (T : Txt K mg) : ∃ u, mg "SCENE" = some u ∧ RelV (.str "scene") u := T.str _ _ 68 rfl
theorem Txt.LIST (T : Txt K mg) : ∃ u, mg "LIST" = some u ∧ RelV (.str "list") u := T.str _ _ 69 rfl
theorem Txt.cls (T : Txt K mg) : Cls K (He.ga K "Lines") := He.cls_ok (T.says.fact 70 rfl)
theorem Txt.no_lines_so (T : Txt K mg) : NoAttr K (He.ga K "Lines") "lines_so" := He.noat_ok (T.says.fact 78 rfl)
theorem Txt.no_at (T : Txt K mg) : NoAttr K (He.ga K "Lines") "at" := He.noat_ok (T.says.fact 79 rfl)
end
abbrev at_is_integer : Nat := 0
abbrev at_is_whole : Nat := 1
abbrev at_is_some : Nat := 2
abbrev at_is_rising : Nat := 3
abbrev at_need_list : Nat := 4
abbrev at_is_next : Nat := 5
abbrev at_is_gang : Nat := 6
abbrev at_is_deed : Nat := 7
abbrev at_is_part : Nat := 8
abbrev at_is_scene : Nat := 9
abbrev at_need_show : Nat := 10
abbrev at_integer_in : Nat := 11
abbrev at_integer_text : Nat := 12
abbrev at_words_text : Nat := 13
abbrev at_show_text : Nat := 14
abbrev at_entry_in : Nat := 15
abbrev at_scene_in : Nat := 16
abbrev at_read_show : Nat := 17
abbrev at_law_begin : Nat := 18
abbrev at_law_next : Nat := 19
abbrev at_law_pick : Nat := 20
abbrev at_law_some : Nat := 21
abbrev at_law_deed : Nat := 22
abbrev at_law_scene : Nat := 23
abbrev at_law_tame : Nat := 24
abbrev at_law_show : Nat := 25
abbrev at_law_show_text : Nat := 26
abbrev at_law : Nat := 27
abbrev at_Lines : Nat := 28
abbrev at_cls : Nat := 70
abbrev at_mkr : Nat := 71
abbrev fn_Lines_init : Nat := 28
abbrev at_Lines_init : Nat := 72
abbrev fn_Lines_word : Nat := 29
abbrev at_Lines_word : Nat := 73
abbrev fn_Lines_need : Nat := 30
abbrev at_Lines_need : Nat := 74
abbrev fn_Lines_integers : Nat := 31
abbrev at_Lines_integers : Nat := 75
abbrev fn_Lines_some : Nat := 32
abbrev at_Lines_some : Nat := 76
abbrev fn_Lines_one : Nat := 33
abbrev at_Lines_one : Nat := 77
end K33
/-! Short words: isinstance, comprehensions that leave what stood. -/
namespace K33
open PySem PySem.Spec PyProof.Rows L2
/-! ### isinstance -/
section
variable {X : Cx}
theorem tyX_tup {K : PySem.W.Frag} {H : Hp} {a : Addr} {xs : List V} (h : SqT K H a xs) : TyX K H (.ref a) (.type "tuple") := by
  rcases h with (h | ⟨o, h⟩) | ⟨o, its, n, h, hc, _⟩
  · exact .base (.tup h)
  · exact .fTuple h
  · exact .kTuple h hc
def rIsInt : List V → Hp → VK → Prop := fun xs H Q => ∃ i : Int, xs = [.int i, .ty "int"] ∧ Q (.bl true) H
def rIsBool : List V → Hp → VK → Prop := fun xs H Q => ∃ i : Int, xs = [.int i, .ty "bool"] ∧ Q (.bl false) H
def rIsTup (K : PySem.W.Frag) : List V → Hp → VK → Prop := fun xs H Q => ∃ (a : Addr) (ys : List V), xs = [.ref a, .ty "tuple"] ∧ SqT K H a ys ∧ Q (.bl true) H
def isS : W → Bool
  | .s _ => true
  | .i _ => false
def rIsW : List V → Hp → VK → Prop := fun xs H Q => ∃ u : W, xs = [u.v, .ty "str"] ∧ Q (.bl (isS u)) H
theorem call_isInt : CallR X (.builtin "isinstance") rIsInt := by
  intro pins s σ H xs us Q I r h
  obtain ⟨i, rfl, q⟩ := h
  exact call_isi pins s σ H _ us Q I r ⟨_, _, _, _, true, rfl, .ty _, .base (.int i), kit_ty (by decide +kernel), q⟩
theorem call_isBool : CallR X (.builtin "isinstance") rIsBool := by
  intro pins s σ H xs us Q I r h
  obtain ⟨i, rfl, q⟩ := h
  exact call_isi pins s σ H _ us Q I r ⟨_, _, _, _, false, rfl, .ty _, .base (.int i), kit_ty (by decide +kernel), q⟩
theorem call_isTup : CallR X (.builtin "isinstance") (rIsTup X.K) := by
  intro pins s σ H xs us Q I r h
  obtain ⟨a, ys, rfl, hs, q⟩ := h
  exact call_isi pins s σ H _ us Q I r ⟨_, _, _, _, true, rfl, .ty _, tyX_tup hs, kit_ty (by decide +kernel), q⟩
theorem call_isW : CallR X (.builtin "isinstance") rIsW := by
  intro pins s σ H xs us Q I r h
  obtain ⟨u, rfl, q⟩ := h
  cases u with
  | s x => exact call_isi pins s σ H _ us Q I r ⟨_, _, _, _, true, rfl, .ty _, .base (.str x), kit_ty (by decide +kernel), q⟩
  | i n => exact call_isi pins s σ H _ us Q I r ⟨_, _, _, _, false, rfl, .ty _, .base (.int n), kit_ty (by decide +kernel), q⟩
end
/-! ### comprehensions -/
theorem tup_len {X : Cx} {pins : List (Addr × Obj)} {σ : L2.St} {H : Hp} {s : Shared} (I : Inv X pins σ H s) {a : Addr} {xs : List V} (h : SqT X.K H a xs) : xs.length ≤ sizeLine := by
  obtain ⟨_, _, _, z⟩ := I.tuple h
  exact z
theorem small {n : Nat} (h : n ≤ 1000) : n < sizeLine := small1000 h
/-- the items f 0, f 1, .. ; what stood stays -/
theorem lc_vals {J : It} {n : Nat} {G : Hp → Prop} {Y : Nat → Hp → V → Hp → Prop} (w : Walk J n G Y) {g : TG} {tt : TT} {te : TE} {vs : List Nat} {σ : L2.St} {H1 : Hp} {D : Addr} {Qd : Hp → Prop} (f : Nat → V) (nD : H1 D = none) (hn : n ≤ 1000)
    (hG : ∀ H, Same H1 H → G H)
    (hs : ∀ i x H H', i < n → Same H1 H → Y i H x H' → ∀ (Qe : VK) (Qf : Hp → Prop), (∀ H4, Same H H4 → Qe (f i) H4) → g x (wipe σ vs) H' fun σ2 H2 => wipe σ2 vs = wipe σ vs ∧ tt σ2 H2 fun b H3 => if b = true then te σ2 H3 Qe else Qf H3)
    (hd : ∀ H, Same H1 H → H D = some (.lst ((List.range n).map f)) → Qd H) :
    ∃ W : Nat → Nat → Hp → Prop, (∃ m, W 0 m (upd H1 D (.lst []))) ∧ ∀ i m H, W i m H →
      (J.stop i H ∧ Qd H) ∨ (J.go i H ∧ ∃ Nx : Hp → Prop, (∀ H', Nx H' → ∃ m', m' < m ∧ W (i + 1) m' H') ∧ ∀ x H', J.yld i H x H' → g x (wipe σ vs) H' fun σ2 H2 => wipe σ2 vs = wipe σ vs ∧ tt σ2 H2 fun b H3 =>
        if b = true then te σ2 H3 fun y H4 => ∃ acc, H4 D = some (.lst acc) ∧ acc.length < sizeLine ∧ Nx (upd H4 D (.lst (acc ++ [y]))) else Nx H3) := by
  refine lc_it w (fun i H => Same H1 H ∧ H D = some (.lst ((List.range i).map f))) ⟨same_new nD, upd_same⟩ (fun i H _ p => hG H p.1) (fun i x H H' hi p y => ?_) fun H p => hd H p.1 p.2
  refine hs i x H H' hi p.1 y _ _ fun H4 s4 => ⟨_, s4 _ _ p.2, ?_, same_at nD (p.1.trans s4), ?_⟩
  · rw [List.length_map, List.length_range]
    exact small (by omega)
  · rw [upd_same, List.range_succ, List.map_append]
    rfl
/-- items of which E holds; what stood stays -/
theorem lc_gen {J : It} {n : Nat} {G : Hp → Prop} {Y : Nat → Hp → V → Hp → Prop} (w : Walk J n G Y) {g : TG} {tt : TT} {te : TE} {vs : List Nat} {σ : L2.St} {H1 : Hp} {D : Addr} {Qd : Hp → Prop} (E : Nat → V → Hp → Prop)
    (hE : ∀ i y H H', (∀ b o, b ≠ D → H b = some o → H' b = some o) → (∃ acc, H D = some (.lst acc)) → E i y H → E i y H') (nD : H1 D = none) (hn : n ≤ 1000) (hG : ∀ H, Same H1 H → G H)
    (hs : ∀ i x H H', i < n → Same H1 H → (∃ acc, H D = some (.lst acc)) → Y i H x H' → ∀ (Qe : VK) (Qf : Hp → Prop), (∀ y H4, Same H H4 → E i y H4 → Qe y H4) → g x (wipe σ vs) H' fun σ2 H2 => wipe σ2 vs = wipe σ vs ∧ tt σ2 H2 fun b H3 => if b = true then te σ2 H3 Qe else Qf H3)
    (hd : ∀ H acc, Same H1 H → H D = some (.lst acc) → acc.length = n → (∀ i y, acc[i]? = some y → E i y H) → Qd H) :
    ∃ W : Nat → Nat → Hp → Prop, (∃ m, W 0 m (upd H1 D (.lst []))) ∧ ∀ i m H, W i m H →
      (J.stop i H ∧ Qd H) ∨ (J.go i H ∧ ∃ Nx : Hp → Prop, (∀ H', Nx H' → ∃ m', m' < m ∧ W (i + 1) m' H') ∧ ∀ x H', J.yld i H x H' → g x (wipe σ vs) H' fun σ2 H2 => wipe σ2 vs = wipe σ vs ∧ tt σ2 H2 fun b H3 =>
        if b = true then te σ2 H3 fun y H4 => ∃ acc, H4 D = some (.lst acc) ∧ acc.length < sizeLine ∧ Nx (upd H4 D (.lst (acc ++ [y]))) else Nx H3) := by
  refine lc_it w (fun i H => ∃ acc, Same H1 H ∧ H D = some (.lst acc) ∧ acc.length = i ∧ ∀ j y, acc[j]? = some y → E j y H) ⟨[], same_new nD, upd_same, rfl, fun j y e => by simp at e⟩ (fun i H _ p => ?_) (fun i x H H' hi p y => ?_) fun H p => ?_
  · obtain ⟨acc, s, _⟩ := p
    exact hG H s
  · obtain ⟨acc, s1, eD, el, da⟩ := p
    refine hs i x H H' hi s1 ⟨acc, eD⟩ y _ _ fun v H4 s4 dv => ⟨acc, s4 _ _ eD, ?_, acc ++ [v], same_at nD (s1.trans s4), upd_same, ?_, fun j u e => ?_⟩
    · rw [el]
      exact small (by omega)
    · rw [List.length_append, el] <;> rfl
    · have up : ∀ b o, b ≠ D → H4 b = some o → upd H4 D (.lst (acc ++ [v])) b = some o := fun b o hb e => by
        rw [upd_ne hb]
        exact e
      refine hE j u H4 _ up ⟨acc, s4 _ _ eD⟩ ?_
      by_cases hj : j < acc.length
      · rw [List.getElem?_append_left hj] at e
        exact hE j u H H4 (fun b o _ z => s4 b o z) ⟨acc, eD⟩ (da j u e)
      · rw [List.getElem?_append_right (by omega)] at e
        have hj2 : j - acc.length = 0 := by
          apply Classical.byContradiction
          intro hne
          rw [List.getElem?_eq_none (by show [v].length ≤ _; rw [List.length_singleton]; omega)] at e
          cases e
        rw [hj2] at e
        have ev : v = u := Option.some.inj e
        have ej : j = i := by omega
        rw [← ev, ej]
        exact dv
  · obtain ⟨acc, s1, eD, el, da⟩ := p
    exact hd H acc s1 eD el da
mutual
/-- no list within -/
def tupOnly : PyData → Bool
  | .none | .bool _ | .int _ | .str _ => true
  | .tuple xs => tupOnlyAll xs
  | .list _ | .dict _ => false
def tupOnlyAll : List PyData → Bool
  | [] => true
  | x :: xs => tupOnly x && tupOnlyAll xs
end
/-- tuples stand -/
def FixT (H H' : Hp) : Prop := ∀ b xs, Rd H b (.tup xs) → Rd H' b (.tup xs)
theorem FixT.seqT {K : PySem.W.Frag} {H H' : Hp} {a : Addr} {xs : List V} (f : FixT H H') (h : SqT K H a xs) : SqT K H' a xs := by
  rcases h with h | h
  · exact .inl (f _ _ h)
  · exact .inr h
mutual
theorem Dp.fixT {K : PySem.W.Frag} {H H' : Hp} (f : FixT H H') : ∀ (d : PyData) (v : V), tupOnly d = true → Dp K H v d → Dp K H' v d
  | .none, _, _, h => by cases h; exact .non
  | .bool b, _, _, h => by cases h; exact .bl b
  | .int i, _, _, h => by cases h; exact .int i
  | .str x, _, _, h => by cases h; exact .str x
  | .list ds, _, t, _ => nomatch t
  | .tuple ds, _, t, h => by
    cases h with
    | tup a b => exact .tup (f.seqT a) (DpAll.fixT f ds _ (by rw [tupOnly] at t; exact t) b)
  | .dict _, _, _, h => nomatch h
theorem DpAll.fixT {K : PySem.W.Frag} {H H' : Hp} (f : FixT H H') : ∀ (ds : List PyData) (vs : List V), tupOnlyAll ds = true → DpAll K H vs ds → DpAll K H' vs ds
  | [], _, _, h => by cases h; exact .nil
  | d :: ds, _, t, h => by
    rw [tupOnlyAll, Bool.and_eq_true] at t
    cases h with
    | cons a b => exact .cons (Dp.fixT f d _ t.1 a) (DpAll.fixT f ds _ t.2 b)
end
theorem tupOnlyAll_iff : ∀ {ds : List PyData}, tupOnlyAll ds = true ↔ ∀ d ∈ ds, tupOnly d = true
  | [] => by simp [tupOnlyAll]
  | d :: ds => by rw [tupOnlyAll, Bool.and_eq_true, tupOnlyAll_iff (ds := ds)]; simp
theorem dpAll_of {K : PySem.W.Frag} {H : Hp} : ∀ {vs : List V} {ds : List PyData}, vs.length = ds.length → (∀ (i : Nat) (v : V) (d : PyData), vs[i]? = some v → ds[i]? = some d → Dp K H v d) → DpAll K H vs ds
  | [], [], _, _ => .nil
  | [], _ :: _, h, _ => by cases h
  | _ :: _, [], h, _ => by cases h
  | v :: vs, d :: ds, h, k => .cons (k 0 v d rfl rfl) (dpAll_of (Nat.succ.inj h) fun i u e h1 h2 => k (i + 1) u e h1 h2)
/-- items that are data ds, no list within; what stood stays -/
theorem lc_data {K : PySem.W.Frag} {J : It} {n : Nat} {G : Hp → Prop} {Y : Nat → Hp → V → Hp → Prop} (w : Walk J n G Y) {g : TG} {tt : TT} {te : TE} {vs : List Nat} {σ : L2.St} {H1 : Hp} {D : Addr} {Qd : Hp → Prop} (ds : List PyData) (ht : ∀ d ∈ ds, tupOnly d = true) (hds : ds.length = n) (nD : H1 D = none) (hn : n ≤ 1000)
    (hG : ∀ H, Same H1 H → G H)
    (hs : ∀ i x d H H', i < n → ds[i]? = some d → Same H1 H → Y i H x H' → ∀ (Qe : VK) (Qf : Hp → Prop), (∀ y H4, Same H H4 → Dp K H4 y d → Qe y H4) → g x (wipe σ vs) H' fun σ2 H2 => wipe σ2 vs = wipe σ vs ∧ tt σ2 H2 fun b H3 => if b = true then te σ2 H3 Qe else Qf H3)
    (hd : ∀ H acc, Same H1 H → H D = some (.lst acc) → DpAll K H acc ds → Qd H) :
    ∃ W : Nat → Nat → Hp → Prop, (∃ m, W 0 m (upd H1 D (.lst []))) ∧ ∀ i m H, W i m H →
      (J.stop i H ∧ Qd H) ∨ (J.go i H ∧ ∃ Nx : Hp → Prop, (∀ H', Nx H' → ∃ m', m' < m ∧ W (i + 1) m' H') ∧ ∀ x H', J.yld i H x H' → g x (wipe σ vs) H' fun σ2 H2 => wipe σ2 vs = wipe σ vs ∧ tt σ2 H2 fun b H3 =>
        if b = true then te σ2 H3 fun y H4 => ∃ acc, H4 D = some (.lst acc) ∧ acc.length < sizeLine ∧ Nx (upd H4 D (.lst (acc ++ [y]))) else Nx H3) := by
  refine lc_gen w (fun i y H => ∀ d, ds[i]? = some d → Dp K H y d) (fun i y H H' k ⟨acc, eD⟩ e d hi => ?_) nD hn hG (fun i x H H' hi s1 _ y Qe Qf q => ?_) fun H acc s eD el da => hd H acc s eD (dpAll_of (by rw [el, hds]) fun i v d h1 h2 => da i v h1 d h2)
  · refine Dp.fixT (fun b xs r => ?_) d y (ht d (List.mem_of_getElem? hi)) (e d hi)
    rcases r with r | ⟨o, r⟩
    · exact .inl (k b _ (ne_of r eD (by intro z; cases z)) r)
    · exact .inr ⟨o, k b _ (ne_of r eD (by intro z; cases z)) r⟩
  · have hlt : i < ds.length := by omega
    exact hs i x ds[i] H H' hi (List.getElem?_eq_getElem hlt) s1 y Qe Qf fun v H4 s4 dv => q v H4 s4 fun d e => by
      rw [List.getElem?_eq_getElem hlt] at e
      rw [← Option.some.inj e]
      exact dv
/-- items that are new lists; what stood stays -/
theorem lc_lists {J : It} {n : Nat} {G : Hp → Prop} {Y : Nat → Hp → V → Hp → Prop} (w : Walk J n G Y) {g : TG} {tt : TT} {te : TE} {vs : List Nat} {σ : L2.St} {H1 : Hp} {D : Addr} {Qd : Hp → Prop} (L : List (List V)) (hL : L.length = n) (nD : H1 D = none) (hn : n ≤ 1000)
    (hG : ∀ H, Same H1 H → G H)
    (hs : ∀ i x l H H', i < n → L[i]? = some l → Same H1 H → Y i H x H' → ∀ (Qe : VK) (Qf : Hp → Prop), (∀ p H4, Same H H4 → H p = none → H4 p = some (.lst l) → Qe (.ref p) H4) → g x (wipe σ vs) H' fun σ2 H2 => wipe σ2 vs = wipe σ vs ∧ tt σ2 H2 fun b H3 => if b = true then te σ2 H3 Qe else Qf H3)
    (hd : ∀ H ps, Same H1 H → H D = some (.lst (ps.map V.ref)) → Paired (fun (p : Addr) (l : List V) => H1 p = none ∧ H p = some (.lst l)) ps L → Qd H) :
    ∃ W : Nat → Nat → Hp → Prop, (∃ m, W 0 m (upd H1 D (.lst []))) ∧ ∀ i m H, W i m H →
      (J.stop i H ∧ Qd H) ∨ (J.go i H ∧ ∃ Nx : Hp → Prop, (∀ H', Nx H' → ∃ m', m' < m ∧ W (i + 1) m' H') ∧ ∀ x H', J.yld i H x H' → g x (wipe σ vs) H' fun σ2 H2 => wipe σ2 vs = wipe σ vs ∧ tt σ2 H2 fun b H3 =>
        if b = true then te σ2 H3 fun y H4 => ∃ acc, H4 D = some (.lst acc) ∧ acc.length < sizeLine ∧ Nx (upd H4 D (.lst (acc ++ [y]))) else Nx H3) := by
  refine lc_gen w (fun i y H => ∃ p, y = .ref p ∧ p ≠ D ∧ H1 p = none ∧ ∀ l, L[i]? = some l → H p = some (.lst l)) (fun i y H H' k _ e => ?_) nD hn hG (fun i x H H' hi s1 ⟨acc, eD⟩ y Qe Qf q => ?_) fun H acc s eD el da => ?_
  · obtain ⟨p, rfl, hp, h1, hl⟩ := e
    exact ⟨p, rfl, hp, h1, fun l hi => k p _ hp (hl l hi)⟩
  · have hlt : i < L.length := by omega
    exact hs i x L[i] H H' hi (List.getElem?_eq_getElem hlt) s1 y Qe Qf fun p H4 s4 hp hl => q (.ref p) H4 s4 ⟨p, rfl, (ne_of_none eD hp).symm, s1.free hp, fun l e => by
      rw [List.getElem?_eq_getElem hlt] at e
      rw [← Option.some.inj e]
      exact hl⟩
  · have key : ∀ (acc : List V) (M : List (List V)), acc.length = M.length → (∀ (i : Nat) (y : V), acc[i]? = some y → ∃ p, y = V.ref p ∧ H1 p = none ∧ ∀ l, M[i]? = some l → H p = some (.lst l)) →
        ∃ ps : List Addr, acc = ps.map V.ref ∧ Paired (fun (p : Addr) (l : List V) => H1 p = none ∧ H p = some (.lst l)) ps M := by
      intro acc
      induction acc with
      | nil =>
        intro M hM _
        cases M with
        | nil => exact ⟨[], rfl, .nil⟩
        | cons _ _ => cases hM
      | cons y acc ih =>
        intro M hM k
        cases M with
        | nil => cases hM
        | cons l M =>
          obtain ⟨p, e, hp, hl⟩ := k 0 y rfl
          obtain ⟨ps, e2, hps⟩ := ih M (Nat.succ.inj hM) fun i u h => k (i + 1) u h
          exact ⟨p :: ps, by rw [e, e2] <;> rfl, .cons ⟨hp, hl l rfl⟩ hps⟩
    obtain ⟨ps, e, hps⟩ := key acc L (by rw [el, hL]) fun i y h => by
      obtain ⟨p, e, _, hp, hl⟩ := da i y h
      exact ⟨p, e, hp, hl⟩
    rw [e] at eD
    exact hd H ps s eD hps
end K33
/-! is_integer, is_whole, is_some, is_rising, is_next. -/
namespace K33
open PySem PySem.Spec PyProof.Rows L2
theorem bt_isinstance : bootBuiltins "isinstance" = some (.builtin "isinstance") := by decide +kernel
theorem bt_len : bootBuiltins "len" = some (.builtin "len") := by decide +kernel
theorem bt_all : bootBuiltins "all" = some (.builtin "all") := by decide +kernel
theorem bt_any : bootBuiltins "any" = some (.builtin "any") := by decide +kernel
theorem bt_repr : bootBuiltins "repr" = some (.builtin "repr") := by decide +kernel
theorem bt_sorted : bootBuiltins "sorted" = some (.builtin "sorted") := by decide +kernel
theorem bt_int : bootBuiltins "int" = some (.type "int") := by decide +kernel
theorem bt_bool : bootBuiltins "bool" = some (.type "bool") := by decide +kernel
theorem bt_tuple : bootBuiltins "tuple" = some (.type "tuple") := by decide +kernel
theorem bt_str : bootBuiltins "str" = some (.type "str") := by decide +kernel
theorem bt_list : bootBuiltins "list" = some (.type "list") := by decide +kernel
theorem int_at {ns : List Int} {i : Nat} {x : V} (e : (ns.map V.int)[i]? = some x) : ∃ n, n ∈ ns ∧ x = .int n := by
  rw [List.getElem?_map] at e
  cases h : ns[i]? with
  | none => rw [h] at e; cases e
  | some n =>
    rw [h] at e
    exact ⟨n, List.mem_of_getElem? h, (Option.some.inj e).symm⟩
theorem trues {H : Hp} {D : Addr} {n : Nat} (e : H D = some (.lst ((List.range n).map fun _ => V.bl true))) : H D = some (.lst (((List.range n).map fun _ => true).map V.bl)) := by
  rw [e, List.map_map]
  rfl
theorem all_trues {n : Nat} : ((List.range n).map fun _ => true).all id = true := by
  rw [List.all_eq_true]
  intro x hx
  obtain ⟨_, _, rfl⟩ := List.mem_map.mp hx
  rfl
/-- t[1:] -/
theorem tail_of {K : PySem.W.Frag} {σ : L2.St} {H : Hp} {a : Addr} {xs : List V} {Q : VK} (h : SqT K H a xs) (q : ∀ b H', Same H H' → SqT K H' b (xs.drop 1) → Q (.ref b) H') : tNoPart σ H fun u H3 => rSlA K (.ref a) (some 1) u H3 Q := by
  have e : HT.sIx xs.length 0 (some 1) = min 1 xs.length := HT.sIx_nat _ _ 1
  refine ⟨a, xs, rfl, h, fun z => ?_, fun _ p np => ?_⟩
  · have hl : xs.length = 0 := by omega
    have hx : xs = [] := List.length_eq_zero_iff.mp hl
    refine q a H (fun _ _ z => z) ?_
    rw [hx] at h ⊢
    exact h
  · refine q p _ (same_new np) (.of ?_)
    rw [upd_same]
    unfold cutV
    rw [e, HT.sIx_none]
    by_cases hx : xs = []
    · rw [hx]
      rfl
    · have hl : 0 < xs.length := List.length_pos_iff.mpr hx
      rw [Nat.min_eq_left hl, List.take_of_length_le (by rw [List.length_drop]; omega)]
/-- the test of an expression whose value is a Bool is shown where the value is -/
def spIsInt : Sp := fun vs H Q _ => ∃ n : Int, vs = [.int n] ∧ Q (.bl true) H
def spWhole : Sp := fun vs H Q _ => ∃ n a b : Int, vs = [.int n, .int a, .int b] ∧ Q (.bl (decide (a ≤ n) && decide (n ≤ b))) H
def spSome (K : PySem.W.Frag) : Sp := fun vs H Q _ => ∃ (a : Addr) (xs : List V) (m : Int), vs = [.ref a, .int m] ∧ SqT K H a xs ∧ Q (.bl (decide ((xs.length : Int) ≤ m))) H
def spRising (K : PySem.W.Frag) : Sp := fun vs H Q _ => ∃ (a : Addr) (ns : List Int) (m : Int), vs = [.ref a, .int m] ∧ SqT K H a (ns.map V.int) ∧ Rising ns m ∧ ns.length ≤ 900 ∧ ∀ H', Same H H' → Q (.bl true) H'
def spNext (K : PySem.W.Frag) : Sp := fun vs H Q _ => ∃ (a : Addr) (ns : List Int) (i : Nat) (m : Int), vs = [.ref a, .int i, .int m] ∧ SqT K H a (ns.map V.int) ∧ Rising ns m ∧ i < ns.length ∧ Q (.bl true) H
theorem sc_is_integer : FnScope ["thing"] ["thing"] (defScope s_is_integer) := ⟨rfl, rfl, rfl, by decide +kernel, rfl, by decide +kernel, by decide +kernel⟩
theorem sc_is_whole : FnScope ["thing", "least", "most"] ["thing", "least", "most"] (defScope s_is_whole) := ⟨rfl, rfl, rfl, by decide +kernel, rfl, by decide +kernel, by decide +kernel⟩
theorem sc_is_some : FnScope ["thing", "most"] ["thing", "most"] (defScope s_is_some) := ⟨rfl, rfl, rfl, by decide +kernel, rfl, by decide +kernel, by decide +kernel⟩
theorem sc_is_rising : FnScope ["thing", "most", "item", "one", "other"] ["thing", "most"] (defScope s_is_rising) := ⟨rfl, rfl, rfl, by decide +kernel, rfl, by decide +kernel, by decide +kernel⟩
theorem sc_is_next : FnScope ["thing", "number", "most"] ["thing", "number", "most"] (defScope s_is_next) := ⟨rfl, rfl, rfl, by decide +kernel, rfl, by decide +kernel, by decide +kernel⟩
section
variable {P : Program} {w : World} {K : PySem.W.Frag} {mg : Str → Option Value} {base : Heap}
theorem cal_is_integer (T : Txt K mg) : C8.Cal P w K mg base 1 "is_integer" spIsInt [] := by
  refine T.cal at_is_integer at_is_integer rfl rfl sc_is_integer (fun _ _ _ _ _ _ us hl => match us, hl with | [_], _ => rfl) (fun vs H Q E h => ?_) (fun f cdv A outer s H vs Q E hr h => ?_)
  · obtain ⟨n, rfl, _⟩ := h
    rfl
  · obtain ⟨n, rfl, q⟩ := h
    refine ⟨_, pss_one (ps_ret (pe_and (pe_callB call_isInt (by rfl) T.m_isinstance bt_isinstance (pa_cons (pv 0) (pa_cons (pe_bltn (v := .ty "int") (by rfl) T.m_int bt_int rfl) pa_nil)))
      (pe_one (pe_not (pe_callB call_isBool (by rfl) T.m_isinstance bt_isinstance (pa_cons (pv 0) (pa_cons (pe_bltn (v := .ty "bool") (by rfl) T.m_bool bt_bool rfl) pa_nil))))))), ?_⟩
    refine ⟨_, rfl, n, rfl, true, rfl, iteT ?_⟩
    exact ⟨_, rfl, n, rfl, false, rfl, q⟩
theorem cal_is_whole (T : Txt K mg) : C8.Cal P w K mg base 2 "is_whole" spWhole [] := by
  refine T.cal at_is_whole at_is_whole rfl rfl sc_is_whole (fun _ _ _ _ _ _ us hl => match us, hl with | [_, _, _], _ => rfl) (fun vs H Q E h => ?_) (fun f cdv A outer s H vs Q E hr h => ?_)
  · obtain ⟨n, a, b, rfl, _⟩ := h
    rfl
  · obtain ⟨n, a, b, rfl, q⟩ := h
    refine ⟨_, pss_one (ps_ret (pe_and (C8.pe_c (cal_is_integer T) hr (by decide) (by rfl) (pa_cons (pv 0) pa_nil)) (pe_one (pe_chain op_le op_le (pv 1) (pv 0) (pv 2))))), ?_⟩
    refine ⟨_, rfl, n, rfl, true, rfl, iteT ?_⟩
    refine ⟨_, rfl, _, rfl, a, n, rfl, rfl, _, rfl, ?_⟩
    by_cases h1 : a ≤ n
    · rw [decide_eq_true h1] at q ⊢
      refine iteT ⟨_, rfl, n, b, rfl, rfl, ?_⟩
      rw [Bool.true_and] at q
      exact q
    · rw [decide_eq_false h1] at q ⊢
      refine iteF ?_
      rw [Bool.false_and] at q
      exact q
theorem cal_is_some (T : Txt K mg) : C8.Cal P w K mg base 1 "is_some" (spSome K) [] := by
  refine T.cal at_is_some at_is_some rfl rfl sc_is_some (fun _ _ _ _ _ _ us hl => match us, hl with | [_, _], _ => rfl) (fun vs H Q E h => ?_) (fun f cdv A outer s H vs Q E hr h => ?_)
  · obtain ⟨a, xs, m, rfl, _⟩ := h
    rfl
  · obtain ⟨a, xs, m, rfl, hS, q⟩ := h
    refine ⟨_, pss_one (ps_ret (pe_and (pe_callB call_isTup (by rfl) T.m_isinstance bt_isinstance (pa_cons (pv 0) (pa_cons (pe_bltn (v := .ty "tuple") (by rfl) T.m_tuple bt_tuple rfl) pa_nil)))
      (pe_one (pe_cmpR op_le (pe_callB call_len_seq (by rfl) T.m_len bt_len (pa_cons (pv 0) pa_nil)) (pv 1) (nomark _))))), ?_⟩
    refine ⟨_, rfl, a, xs, rfl, hS, true, rfl, iteT ?_⟩
    exact ⟨_, rfl, a, xs, rfl, .inr hS, _, rfl, _, m, rfl, rfl, q⟩
theorem cal_is_next (T : Txt K mg) : C8.Cal P w K mg base 3 "is_next" (spNext K) [] := by
  refine T.cal at_is_next at_is_next rfl rfl sc_is_next (fun _ _ _ _ _ _ us hl => match us, hl with | [_, _, _], _ => rfl) (fun vs H Q E h => ?_) (fun f cdv A outer s H vs Q E hr h => ?_)
  · obtain ⟨a, ns, i, m, rfl, _⟩ := h
    rfl
  · obtain ⟨a, ns, i, m, rfl, hS, hR, hi, q⟩ := h
    refine ⟨_, pss_one (ps_ret (pe_and (C8.pe_c (cal_is_whole T) hr (by decide) (by rfl) (pa_cons (pe_ix ix_tup (pv 0) (pv 1) (fun _ _ => rfl)) (pa_cons pe_int (pa_cons (pe_op op_sub (pv 2) pe_int) pa_nil))))
      (pe_one (pe_or (pe_cmpR op_eq (pv 1) pe_int (nomark _)) (pe_one (pe_cmpR op_lt (pe_ix ix_tup (pv 0) (pe_op op_sub (pv 1) pe_int) (fun _ _ => rfl)) (pe_ix ix_tup (pv 0) (pv 1) (fun _ _ => rfl)) (nomark _))))))), ?_⟩
    have gi : (ns.map V.int)[i]? = some (.int ns[i]) := by
      rw [List.getElem?_map, List.getElem?_eq_getElem hi]
      rfl
    have hb := hR.1 ns[i] (List.getElem_mem hi)
    refine ⟨_, rfl, _, rfl, a, _, _, _, rfl, rfl, hS, atI_nat gi, _, rfl, m, 1, rfl, rfl, ns[i], 0, m - 1, rfl, _, rfl, ?_⟩
    rw [decide_eq_true hb.1, decide_eq_true (show ns[i] ≤ m - 1 by omega)]
    refine iteT ⟨_, rfl, rfl, _, rfl, ?_⟩
    by_cases h0 : i = 0
    · rw [h0, decide_eq_true (show V.int ((0 : Nat) : Int) = V.int 0 from rfl)]
      exact iteT q
    · have h1 : ((i : Int) - 1) = ((i - 1 : Nat) : Int) := by omega
      have hj : i - 1 < ns.length := by omega
      have gj : (ns.map V.int)[i - 1]? = some (.int ns[i - 1]) := by
        rw [List.getElem?_map, List.getElem?_eq_getElem hj]
        rfl
      rw [decide_eq_false (by intro e; exact h0 (by have := V.int.inj e; omega))]
      refine iteF ⟨_, rfl, _, rfl, _, 1, rfl, rfl, a, _, _, _, rfl, rfl, hS, at_of h1 gj, _, rfl, _, rfl, a, _, _, _, rfl, rfl, hS, atI_nat gi, _, _, rfl, rfl, ?_⟩
      have e := decide_eq_true (List.pairwise_iff_getElem.mp hR.2 (i - 1) i hj hi (by omega))
      show Q (V.bl (decide (ns[i - 1] < ns[i]))) H
      rw [e]
      exact q
theorem cal_is_rising (T : Txt K mg) : C8.Cal P w K mg base 3 "is_rising" (spRising K) [] := by
  refine T.cal at_is_rising at_is_rising rfl rfl sc_is_rising (fun _ _ _ _ _ _ us hl => match us, hl with | [_, _], _ => rfl) (fun vs H Q E h => ?_) (fun f cdv A outer s H vs Q E hr h => ?_)
  · obtain ⟨a, ns, m, rfl, _⟩ := h
    rfl
  · obtain ⟨a, ns, m, rfl, hS, hR, hL, q⟩ := h
    refine ⟨_, pss_cons (ps_if (PW.pt (pw_or (pt_not (pt_val (pe_callB call_isTup (by rfl) T.m_isinstance bt_isinstance (pa_cons (pv 0) (pa_cons (pe_bltn (v := .ty "tuple") (by rfl) T.m_tuple bt_tuple rfl) pa_nil)))))
        (pw_or1 (pt_not (pt_val (pe_callB (cr_all rfl) (by rfl) T.m_all bt_all (pa_cons (pe_lc (own := [("item", 2)]) (g := gName 2) (tt := tYes) rfl sc_is_rising.nd (pi_tup (pv 0)) (blkOk_by (N := ["thing", "most", "item", "one", "other"]) (sc := defScope s_is_rising) (by decide +kernel)) (fun _ _ _ _ _ => pg_name (i := 2) sc_is_rising.nd rfl (.inl rfl)) (fun _ _ _ _ _ => pts_nil)
          (fun _ _ _ _ _ => C8.pe_c (cal_is_whole T) hr (by decide) (by rfl) (pa_cons (pv 2) (pa_cons pe_int (pa_cons (pe_op op_sub (pv 1) pe_int) pa_nil))))) pa_nil)))))))
        (pss_never) pss_nil)
      (pss_one (ps_ret (pe_callB (cr_all rfl) (by rfl) T.m_all bt_all (pa_cons (pe_lc (own := [("one", 3), ("other", 4)]) (g := gTup K 2 (gCons (gName 3) (gCons (gName 4) gNil))) (tt := tYes) rfl sc_is_rising.nd (RZ.pi_zipA (by rfl) T.m_zip (pa_cons (pv 0) (pa_cons (pe_slice sl_tupA (pv 0) (po_some pe_int) po_none) pa_nil))) (blkOk_by (N := ["thing", "most", "item", "one", "other"]) (sc := defScope s_is_rising) (by decide +kernel))
          (fun _ _ _ _ _ => pg_tup rfl (pgs_cons (pg_name (i := 3) sc_is_rising.nd rfl (.inl rfl)) (pgs_cons (pg_name (i := 4) sc_is_rising.nd rfl (.inl rfl)) pgs_nil))) (fun _ _ _ _ _ => pts_nil)
          (fun _ _ _ _ _ => pe_cmpR op_lt (pv 3) (pv 4) (nomark _))) pa_nil)))), ?_⟩
    refine ⟨_, rfl, a, _, rfl, hS, ?_⟩
    refine ⟨_, rfl, iteF ?_⟩
    refine ⟨_, rfl, a, rfl, ⟨_, hS⟩, fun D nD => ?_⟩
    refine lc_vals (G := fun H => SqT K H a (ns.map V.int)) walk_tup (fun _ => V.bl true) nD (by rw [List.length_map]; omega) (fun H1 s1 => (same_fix s1).seqT hS) ?_ ?_
    · intro i x H1 H2 hi s1 y Qe Qf q
      obtain ⟨rfl, e⟩ := y
      obtain ⟨n, hn, rfl⟩ := int_at e
      have hb := hR.1 n hn
      refine ⟨rfl, ⟨_, rfl, _, rfl, m, 1, rfl, rfl, n, 0, m - 1, rfl, ?_⟩⟩
      rw [decide_eq_true hb.1, decide_eq_true (show n ≤ m - 1 by omega)]
      exact q _ fun _ _ z => z
    · intro H1 s1 e
      refine ⟨D, _, rfl, .of (trues e), _, rfl, ?_⟩
      rw [all_trues]
      refine iteF ?_
      refine ⟨_, rfl, _, rfl, 1, rfl, tail_of ((same_fix s1).seqT hS) fun b H2 s2 hb => ?_⟩
      refine ⟨a, b, ns.map V.int, (ns.map V.int).drop 1, rfl, .inr ⟨(same_fix (s1.trans s2)).seqT hS, hb, fun D2 nD2 => ?_⟩⟩
      refine lc_vals (G := fun H => SqT K H a (ns.map V.int) ∧ SqT K H b ((ns.map V.int).drop 1)) (n := ns.length - 1) (walk_zipT (by rw [List.length_drop, List.length_map]; omega)) (fun _ => V.bl true) nD2 (by omega) (fun H3 s3 => ⟨(same_fix ((s1.trans s2).trans s3)).seqT hS, (same_fix s3).seqT hb⟩) ?_ ?_
      · intro i x H3 H4 hi s3 y Qe Qf q3
        obtain ⟨t, u, v, rfl, nt, rfl, e1, e2⟩ := y
        have h1 : i < ns.length := by omega
        have h2 : i + 1 < ns.length := by omega
        have e1 : (ns.map V.int)[i]? = some u := e1
        have e2 : ((ns.map V.int).drop 1)[i]? = some v := e2
        rw [List.getElem?_map, List.getElem?_eq_getElem h1] at e1
        rw [List.getElem?_drop, Nat.add_comm 1 i, List.getElem?_map, List.getElem?_eq_getElem h2] at e2
        obtain rfl := Option.some.inj e1
        obtain rfl := Option.some.inj e2
        refine ⟨t, _, rfl, .of upd_same, rfl, _, _, rfl, _, _, rfl, ⟨rfl, rfl, ⟨_, rfl, _, rfl, _, _, rfl, rfl, ?_⟩⟩⟩
        have e := decide_eq_true (List.pairwise_iff_getElem.mp hR.2 i (i + 1) h1 h2 (by omega))
        show Qe (V.bl (decide (ns[i] < ns[i + 1]))) _
        rw [e]
        exact q3 _ (same_new nt)
      · intro H3 s3 e3
        refine ⟨D2, _, rfl, .of (trues e3), ?_⟩
        rw [all_trues]
        exact q _ ((s1.trans s2).trans s3)
end
end K33
/-! need_list, and a lambda of one parameter handed to it. -/
namespace K33
open PySem PySem.Spec PyProof.Rows L2
/-! ### the lambda's scope and context -/
structure LamP (sc scope : Scope) (N : List Str) (y : Str) : Prop where
  knd : scope.kind = .function
  noCo : scope.isCoroutine = false
  noGen : scope.isGenerator = false
  noCell : ∀ z ∈ scope.names, z.2 ≠ .cell
  only : ∀ z ∈ scope.names, z.2 = .local → z.1 = y
  caught : ∀ z ∈ scope.names, z.2 = .free → sc.names.lookup z.1 = some .cell
  par : scope.names.lookup y = some .local
  fresh : y ∉ N
def lamPB (sc scope : Scope) (N : List Str) (y : Str) : Bool :=
  (decide (scope.kind = .function) && decide (scope.isCoroutine = false) && decide (scope.isGenerator = false)) && ((decide (scope.names.lookup y = some .local) && decide (y ∉ N)) &&
    scope.names.all fun z => decide (z.2 ≠ .cell) && (decide (z.2 = .local → z.1 = y) && decide (z.2 = .free → sc.names.lookup z.1 = some .cell)))
theorem lamP_by {sc scope : Scope} {N : List Str} {y : Str} (h : lamPB sc scope N y = true) : LamP sc scope N y := by
  unfold lamPB at h
  rw [Bool.and_eq_true, Bool.and_eq_true, Bool.and_eq_true, Bool.and_eq_true, Bool.and_eq_true] at h
  obtain ⟨⟨⟨a, b⟩, c⟩, ⟨d, e⟩, f⟩ := h
  have g : ∀ z ∈ scope.names, z.2 ≠ .cell ∧ (z.2 = .local → z.1 = y) ∧ (z.2 = .free → sc.names.lookup z.1 = some .cell) := fun z hz => by
    have q := List.all_eq_true.mp f z hz
    rw [Bool.and_eq_true, Bool.and_eq_true] at q
    exact ⟨of_decide_eq_true q.1, of_decide_eq_true q.2.1, of_decide_eq_true q.2.2⟩
  exact ⟨of_decide_eq_true a, of_decide_eq_true b, of_decide_eq_true c, fun z hz => (g z hz).1, fun z hz => (g z hz).2.1, fun z hz => (g z hz).2.2, of_decide_eq_true d, of_decide_eq_true e⟩
theorem LamP.cells {X : Cx} {scope : Scope} {y : Str} (L : LamP X.env.scope scope X.N y) (ok : X.Ok) : ∀ z ∈ scope.names, z.2 = .free → ∃ c, X.env.cells.lookup z.1 = some c := fun z hz e => ok.has z.1 (.inl (L.caught z hz e))
/-- the context of its body: the parameter stands behind the maker's names -/
abbrev lamC (X : Cx) (A : Around) (outer : List Env) (s : Shared) (H : Hp) (scope : Scope) (f c' : Addr) (y : Str) : Cx :=
  { LamX.lamCx X A outer s H C8.E0 scope f c' with N := X.N ++ [y] }
section
variable {X : Cx} {pins : List (Addr × Obj)} {σ : L2.St} {H HZ : Hp} {s s1 : Shared}
theorem lamC_inv {A : Around} {outer : List Env} {scope : Scope} {f c' : Addr} {y : Str} {h1 : Heap} {tk : Nat} {v : V} {u : Value} (I : Inv X pins σ H s) (L : LamP X.env.scope scope X.N y) (e0 : Env0 X.prog X.w X.K X.mg X.base A outer s1 HZ) (hA : A.handled = none)
    (un : Un (frs X.stack) [] H HZ s.heap s1.heap) (r : RelV v u) (hns : h1.Ns s1.heap.objs.size fun z => ([(y, u)] : List (Str × Value)).reverse.lookup z) (kp : ∀ b o, s1.heap.get? b = some o → h1.get? b = some o) :
    Inv (lamC X A outer s1 HZ scope f c' y) [] (σ ++ [some v]) HZ { s1 with heap := h1, toks := tk } := by
  have made := L.cells I.ok
  have back : ∀ {z : Str} {c : Addr}, (cloFrom X.env.cells scope.names []).lookup z = some c → X.env.cells.lookup z = some c := by
    intro z c e
    rcases cloFrom_mem (PySem.mem_of_lookup e) with m | ⟨m, ec⟩
    · exact absurd m (List.not_mem_nil)
    · obtain ⟨c1, k⟩ := made _ m rfl
      have k : X.env.cells.lookup z = some c1 := k
      rw [ec, k]
      rfl
  have fwd : ∀ {z : Str}, scope.names.lookup z = some .free → ∃ c, (cloFrom X.env.cells scope.names []).lookup z = some c := fun {z} hl => mem_lookup (cloFrom_has (cells := X.env.cells) (acc := []) (PySem.mem_of_lookup hl))
  have stays : ∀ {c : Addr} {x : Option Value}, H c = none → s.heap.IsCell c x → h1.IsCell c x := by
    rintro c x n ⟨o, ho, hd⟩
    obtain ⟨sl, q⟩ := un.any ho n List.not_mem_nil
    exact ⟨_, kp _ _ q, hd⟩
  have ok : (lamC X A outer s1 HZ scope f c' y).Ok :=
    { mod := e0.mod, kind := L.knd, glob := rfl, blt := rfl, above := Nat.le_refl _, inj := fun a b c e1 e2 => I.ok.inj a b c (back e1) (back e2)
      has := fun z hz => by
        rcases (show scope.names.lookup z = some .cell ∨ scope.names.lookup z = some .free from hz) with k | k
        · exact absurd rfl (L.noCell _ (PySem.mem_of_lookup k))
        · exact fwd k
      cab := fun z c e _ => by cases (show false = true from e)
      hd := fun _ => hA, frames := Around.frames_deeper e0.frames, stk := .inr ⟨rfl, rfl⟩
      exf := fun b z => absurd (show b ∈ ([] : List Addr) from z) List.not_mem_nil
      bs := e0.bs, bsz := e0.bsz, noex := fun b _ _ z => absurd (show b ∈ ([] : List Addr) from z) List.not_mem_nil
      exfs := fun b z => absurd (show b ∈ ([] : List Addr) from z) List.not_mem_nil, funs := e0.funs, frf := e0.frf }
  refine { ok := ok, os := rfl, bare := e0.bare, base := Un.kept kp, loc := ⟨_, hns, ?_⟩, cell := ?_, free := e0.hok.fresh (Nat.le_refl _), freeC := ?_, pin := fun q hq => absurd (show q ∈ ([] : List (Addr × Obj)) ++ [] from hq) (by simp), hok := e0.hok.kept kp, len := ?_ }
  · intro i z x hN hx vis
    have hN : (X.N ++ [y])[i]? = some z := hN
    by_cases hi : i < X.N.length
    · rw [List.getElem?_append_left hi] at hN
      rw [List.getElem?_append_left (by rw [I.len]; exact hi)] at hx
      have hz : z ≠ y := fun e => L.fresh (by rw [← e]; exact List.mem_of_getElem? hN)
      rcases (show Vis scope z from vis) with k | k | k
      · exact absurd (L.only _ (PySem.mem_of_lookup k) rfl) hz
      · exact absurd rfl (L.noCell _ (PySem.mem_of_lookup k))
      · obtain ⟨m, _, look⟩ := I.loc
        have kc := L.caught _ (PySem.mem_of_lookup k) rfl
        obtain ⟨x', rx, q⟩ := look i z x hN hx (.inr (.inl kc))
        obtain ⟨c2, e2⟩ := fwd k
        refine ⟨x', rx, .inr ⟨.inr k, c2, e2, ?_⟩⟩
        rcases q with ⟨kl, _⟩ | ⟨_, c3, e3, st⟩
        · rw [show X.env.kindOf z = some .cell from kc] at kl
          cases kl
        · have e4 := back e2
          rw [e3] at e4
          cases e4
          exact stays (I.freeC z _ e3) st
    · have hl : i - X.N.length = 0 := by
        apply Classical.byContradiction
        intro hne
        rw [List.getElem?_append_right (by omega), List.getElem?_eq_none (by show [y].length ≤ _; rw [List.length_singleton]; omega)] at hN
        cases hN
      rw [List.getElem?_append_right (by omega), hl] at hN
      rw [List.getElem?_append_right (by rw [I.len]; omega), I.len, hl] at hx
      obtain rfl : y = z := Option.some.inj hN
      obtain rfl : v = x := Option.some.inj (Option.some.inj hx)
      refine ⟨u, r, .inl ⟨L.par, ?_⟩⟩
      show ([(y, u)] : List (Str × Value)).reverse.lookup y = some u
      rw [List.reverse_singleton, List.lookup_cons_self]
  · intro z c e
    obtain ⟨x, st⟩ := I.cell z c (back e)
    exact ⟨x, stays (I.freeC z c (back e)) st⟩
  · intro z c e
    obtain ⟨x, o, ho, _⟩ := I.cell z c (back e)
    exact un.free c o ho (I.freeC z c (back e)) List.not_mem_nil
  · show (σ ++ [some v]).length = (X.N ++ [y]).length
    rw [List.length_append, List.length_append, I.len, List.length_singleton, List.length_singleton]
/-- a(e), in the def that got the lambda at f; Z: that def's context, entered at s -/
theorem pe_actP {Ng : List Str} {qg : Str} {sg : Scope} {g f c' : Addr} {cdg pm ctv : Value} {params : Arguments} {body e : Expr} {scope : Scope} {k i : Nat} {a y : Str} {E : XK} {tb te : TE} {p1 p2 : Pos}
    (I : Inv X pins σ H s) (L : LamP X.env.scope scope X.N y) (hf : s.heap.get? f = some (PySem.W.kla_obj "<lambda>" (X.env.qual ++ "<lambda>") params body scope (cloFrom X.env.cells scope.names []) pm c' ctv)) (hfn : H f = none) (hfr : f ∉ frs X.stack)
    (hbind : ∀ u : Value, bindArgs (PySem.W.kla_fn "<lambda>" (X.env.qual ++ "<lambda>") params body scope (cloFrom X.env.cells scope.names []) pm (.ref c') ctv) ⟨[u], []⟩ = pure [(y, u)])
    (hr : Room (k + 1) (X.A.deeper (envOfC qg sg s.heap.objs.size g cdg)))
    (hbody : ∀ (A : Around) (outer : List Env) (s2 : Shared) (H2 : Hp), Room k (A.deeper (LamX.lamEnv X scope s2.heap.objs.size f c')) → PE (lamC X A outer s2 H2 scope f c' y).nox body tb)
    (hN : Ng[i]? = some a) (hv : Vis sg a) (he : PE (cxOf C8.CX0 X.prog X.w X.K X.mg X.base Ng qg sg g cdg X.A X.stack s H E).nox e te)
    (hd : (a == ("__debug__" : Str)) = false := by decide) (hcd : (a == ("__classdict__" : Str)) = false := by decide)
    (hst : starEach [e] (envOfC qg sg s.heap.objs.size g cdg) = (false, eval e (envOfC qg sg s.heap.objs.size g cdg)) :: starEach [] (envOfC qg sg s.heap.objs.size g cdg) := by rfl) :
    PE (cxOf C8.CX0 X.prog X.w X.K X.mg X.base Ng qg sg g cdg X.A X.stack s H E).nox (.Call (.Name a p1) [e] [] p2)
      (fun σZ HZ Q => σZ[i]? = some (some (.ref f)) ∧ te σZ HZ fun v H1 => H1 c' = some (LamX.CodeO c' (X.env.qual ++ "<lambda>")) ∧ tb (σ ++ [some v]) H1 Q) := by
  refine ⟨fun pinsZ sZ σZ HZ Q IZ ⟨hs, ht⟩ => ?_⟩
  have here : ∀ {pp : List (Addr × Obj)} {σ1 : L2.St} {H1 : Hp} {s1 : Shared}, Inv (cxOf C8.CX0 X.prog X.w X.K X.mg X.base Ng qg sg g cdg X.A X.stack s H E).nox pp σ1 H1 s1 →
      s1.heap.get? f = some (PySem.W.kla_obj "<lambda>" (X.env.qual ++ "<lambda>") params body scope (cloFrom X.env.cells scope.names []) pm c' ctv) := fun J => J.base.keep f _ hf hfn hfr List.not_mem_nil
  refine wpAny_Call_Name_kw (thn ((pe_var (pos := p1) (i := i) hN hv hd hcd).run pinsZ sZ σZ HZ (fun v H1 => v = .ref f ∧ H1 = HZ) IZ ⟨_, hs, rfl, rfl⟩) fun u s1 h1 => ?_)
  obtain ⟨v0, H0, I1, r1, ev, eH⟩ := h1
  cases eH
  cases ev
  cases r1
  refine PySem.W.callWith_F (first := []) ⟨_, _, _, _, here I1⟩ ?_ hst rfl
  show wpAny _ _ (spliced (backTo p2 (starEach [e] (envOfC qg sg s.heap.objs.size g cdg)))) _ _ s1
  rw [hst]
  show wpAny _ _ (spliced ((false, eval e (envOfC qg sg s.heap.objs.size g cdg)) :: backTo p2 (starEach [] (envOfC qg sg s.heap.objs.size g cdg)))) _ _ s1
  refine Calls.spliced_cons (thn (he.run pinsZ s1 σZ HZ _ I1 ht) fun u2 s2 h2 => Calls.spliced_nil ?_)
  obtain ⟨v, H2, I2, r2, hc, hb⟩ := h2
  have of2 := here I2
  refine ⟨⟨_, _, _, _, of2⟩, ?_⟩
  have un : Un (frs X.stack) [] H H2 s.heap s2.heap := I2.base
  obtain ⟨⟨oc, vs, t, hoc, hdc, hvc⟩, _, _⟩ := I2.hok c' _ hc
  have go : codeAny (model X.prog X.w) (X.A.deeper (envOfC qg sg s.heap.objs.size g cdg)) (.call (.ref f) ⟨[u2], []⟩) (CR C8.CX0 (envOfC qg sg s.heap.objs.size g cdg :: X.stack) X.prog X.w H2 s2 Q C8.E0) s2 := by
    refine PySem.W.kla_callFunE hr.depth of2 rfl L.noCo L.noGen rfl ⟨c', oc, vs, t, rfl, hoc, hdc, hvc⟩ ?_
    rw [hbind u2]
    refine wpAny_pure (wpAny_newFunctionEnv L.noCell (fun z hz => ?_) (fun h3 hns hsb => ⟨I2.nolimit.fresh _ hsb, ?_⟩) L.knd)
    · rw [List.mem_singleton.mp hz]
      exact L.par
    have kp : ∀ b o, s2.heap.get? b = some o → h3.get? b = some o := fun b o z => hsb.extBut b o (Nat.ne_of_lt (Heap.lt_size z)) (Heap.get?_push_of_some _ z)
    have J := lamC_inv (A := X.A.deeper (envOfC qg sg s.heap.objs.size g cdg)) (outer := envOfC qg sg s.heap.objs.size g cdg :: X.stack) (f := f) (c' := c') (tk := s2.toks + ([(y, u2)] : List (Str × Value)).length) I L I2.env0 hr.hd un r2 hns kp
    have run := (hbody (X.A.deeper (envOfC qg sg s.heap.objs.size g cdg)) (envOfC qg sg s.heap.objs.size g cdg :: X.stack) s2 H2 (hr.deeper _)).run [] _ _ H2 Q (J.wish _) hb
    refine PySem.W.kla_codeExpr (wpAny_mono run (fun x s4 hq => ?_) fun x s4 hq => hq.elim)
    obtain ⟨w4, H4, J4, r4, q4⟩ := hq
    exact ⟨w4, H4, J4.os, J4.bare, J4.base, J4.hok, r4, q4⟩
  refine wpAny_call (codeAny_mono go fun res s4 hq => ?_)
  match res, hq with
  | .error _, hq => exact hq.elim
  | .ok (.ret x), hq => exact I2.after hq
  | .ok .next, hq => exact hq.elim
  | .ok .brk, hq => exact hq.elim
  | .ok .cont, hq => exact hq.elim
end
/-! ### need_list(part, thing, most, lambda number: ..) -/
theorem sc_need_list : FnScope ["part", "thing", "most", "is_good", "number"] ["part", "thing", "most", "is_good"] (defScope s_need_list) := ⟨rfl, rfl, rfl, by decide +kernel, rfl, by decide +kernel, by decide +kernel⟩
def tNeed (K : PySem.W.Frag) (Ts : List (Addr × Str)) (t1 t2 t3 tb : TE) : TE := fun σ H Q => t1 σ H fun _ H1 => t2 σ H1 fun v2 H2 => t3 σ H2 fun v3 H3 =>
  ∃ (a : Addr) (xs : List V) (m : Int), v2 = .ref a ∧ v3 = .int m ∧ SqT K H3 a xs ∧ (xs.length : Int) ≤ m ∧ xs.length ≤ 1000 ∧ LamX.Tabs Ts H3 ∧ ∀ H4, LamX.ExtN H3 H4 → LamX.Tabs Ts H4 →
    (∀ (i : Nat) (H5 : Hp) (Qb : VK), i < xs.length → Same H4 H5 → (∀ H6, Same H5 H6 → Qb (.bl true) H6) → tb (σ ++ [some (.int i)]) H5 Qb) ∧ ∀ H7, Same H4 H7 → Q .non H7
theorem pe_needList {X : Cx} (T : Txt X.K X.mg) {c P : Addr} {k : Nat} {Ts : List (Addr × Str)} {params : Arguments} {body e1 e2 e3 : Expr} {scope : Scope} {y : Str} {t1 t2 t3 tb : TE} {p lpos pos : Pos}
    (hg : Gl X "need_list") (TB : LamX.TabB X.base X.mg c P) (hcode : X.env.code = .ref c) (hmT : (P, X.env.qual ++ "<lambda>") ∈ Ts) (hu : ∀ q ∈ Ts, q.1 = P → q.2 = X.env.qual ++ "<lambda>") (hr : Room (k + 3) X.A)
    (L : LamP X.env.scope scope X.N y) (hdef : defaultsOf params X.env = ([], []))
    (hbind : ∀ (q : Str) (cl : List (Str × Addr)) (pm cv ctv u : Value), bindArgs (PySem.W.kla_fn "<lambda>" q params body scope cl pm cv ctv) ⟨[u], []⟩ = pure [(y, u)])
    (h1 : PE X e1 t1) (h2 : PE X e2 t2) (h3 : PE X e3 t3)
    (hbody : ∀ (A : Around) (outer : List Env) (s2 : Shared) (H2 : Hp) (f c' : Addr), Room (k + 1) (A.deeper (LamX.lamEnv X scope s2.heap.objs.size f c')) → PE (lamC X A outer s2 H2 scope f c' y).nox body tb)
    (hst : starEach [e1, e2, e3, .Lambda params body scope lpos] X.env = [(false, eval e1 X.env), (false, eval e2 X.env), (false, eval e3 X.env), (false, eval (.Lambda params body scope lpos) X.env)] := by rfl)
    (hst1 : starEach [e1, e2, e3, .Lambda params body scope lpos] X.env = (false, eval e1 X.env) :: starEach [e2, e3, .Lambda params body scope lpos] X.env := by rfl)
    (hpl : (backTo pos (starEach [e2, e3, .Lambda params body scope lpos] X.env)).any (·.1) = false := by rfl) :
    PE X (.Call (.Name "need_list" p) [e1, e2, e3, .Lambda params body scope lpos] [] pos) (tNeed X.K Ts t1 t2 t3 tb) := by
  obtain ⟨fd, F⟩ := T.says.def_ at_need_list (d := defD "need_list" s_need_list) rfl
  have hb : L2.Binds X.K fd ["part", "thing", "most", "is_good"] [] := F.bindsN fun _ _ _ _ _ _ us hl => match us, hl with | [_, _, _, _], _ => rfl
  have hk := F.kp
  obtain ⟨oc, od, dV, kV, doc, pm, an, cdv, ct, osl, rfl, lk, hcd, _, _⟩ := F.ex
  refine ⟨fun pins s σ H Q I h => ?_⟩
  refine wpAny_Call_Name_kw (ld_glob I hg (T.glo "need_list" at_need_list rfl) ?_ (by decide))
  refine PySem.W.callWith_K (h₀ := X.base) I.ok.mod.kin hk ?_ hst1 hpl
  rw [hst]
  show wpAny _ _ (spliced [(false, eval e1 X.env), (false, eval e2 X.env), (false, eval e3 X.env), (false, eval (.Lambda params body scope lpos) X.env)]) _ _ s
  refine Calls.spliced_cons (thn (h1.run pins s σ H _ I h) fun u1 s1 ⟨v1, H1, I1, r1, q1⟩ => ?_)
  refine Calls.spliced_cons (thn (h2.run pins s1 σ H1 _ I1 q1) fun u2 s2 ⟨v2, H2, I2, r2, q2⟩ => ?_)
  refine Calls.spliced_cons (thn (h3.run pins s2 σ H2 _ I2 q2) fun u3 s3 ⟨v3, H3, I3, r3, q3⟩ => ?_)
  obtain ⟨a, xs, m, rfl, rfl, hS, hlen, hz, hT, q3⟩ := q3
  refine Calls.spliced_cons (LamX.lam_make2 I3 TB hcode hmT hu hT hdef (L.cells I3.ok) fun f c' pm' ctv H4 s4 I4 x4 T4 hf hfn hfr hco => ?_)
  refine Calls.spliced_nil ⟨I4.kIn, ?_⟩
  obtain ⟨hbd, q⟩ := q3 H4 x4 T4
  have S4 := (extN_fix x4).seqT hS
  have go : codeAny (model X.prog X.w) X.A (.call (.ref (He.fAd X.K (defD "need_list" s_need_list).at_)) ⟨[u1, u2, u3, .ref f], []⟩) (CR C8.CX0 X.stack X.prog X.w H4 s4 Q C8.E0) s4 := by
    refine LamX.run_ofS (k := k + 2) (N := ["part", "thing", "most", "is_good", "number"]) (ps := ["part", "thing", "most", "is_good"]) (us := [u1, u2, u3, .ref f]) (vs := [v1, .ref a, .int m, .ref f]) lk hcd sc_need_list hr I4.env0 (hb s4 [u1, u2, u3, .ref f] I4.kIn rfl) (.cons r1 (.cons r2 (.cons r3 (.cons rfl .nil)))) rfl fun hr' => ?_
    have act := pe_actP (i := 3) (Ng := ["part", "thing", "most", "is_good", "number"]) (qg := "need_list") (sg := defScope s_need_list) (g := He.fAd X.K (defD "need_list" s_need_list).at_) (cdg := cdv) (E := C8.E0) (p1 := ⟨48, 15, 48, 22⟩) (p2 := ⟨48, 15, 48, 30⟩) (e := .Name "number" ⟨48, 23, 48, 29⟩) I4 L hf hfn hfr (fun u => hbind _ _ _ _ _ u) hr' (fun A outer s2 H2 hr2 => hbody A outer s2 H2 f c' hr2) rfl (Or.inl rfl) (pv 4)
    refine ⟨_, PSs.nox (pss_cons (ps_if (pt_not (pt_val (C8.pe_c (cal_is_some T) hr' (by omega) (by rfl) (pa_cons (pv 1) (pa_cons (pv 2) pa_nil))))) pss_never pss_nil)
      (pss_one (ps_for PassesOwn.never rfl (pi_range1 (by rfl) T.m_range (pa_cons (pe_callB call_len_seq (by rfl) T.m_len bt_len (pa_cons (pv 1) pa_nil)) pa_nil)) (pg_name (i := 4) sc_need_list.nd rfl (.inl rfl)) (pss_one (ps_if (pt_not (pt_val act)) pss_never pss_nil))))), ?_⟩
    refine ⟨_, rfl, _, rfl, a, xs, m, rfl, S4, _, rfl, ?_⟩
    rw [decide_eq_true hlen]
    refine iteF ?_
    refine ⟨_, rfl, a, xs, rfl, .inr S4, _, rfl, by omega, by omega, ?_⟩
    refine for_range (fun i σ' H' => Same H4 H' ∧ ∃ x, σ' = [some v1, some (.ref a), some (.int m), some (.ref f), x]) ⟨fun _ _ z => z, _, rfl⟩ ?_ ?_
    · rintro i σ' H' hi ⟨s5, x, rfl⟩
      rw [Int.zero_add]
      refine ⟨rfl, _, rfl, s5 _ _ hco, ?_⟩
      refine hbd i H' _ (by omega) s5 fun H6 s6 => ⟨_, rfl, iteF ?_⟩
      exact ⟨s5.trans s6, _, rfl⟩
    · rintro σ' H' ⟨s5, _⟩
      exact q H' s5
  refine wpAny_call (codeAny_mono go fun res s5 hq => ?_)
  match res, hq with
  | .error _, hq => exact hq.elim
  | .ok (.ret x), hq => exact I4.after hq
  | .ok .next, hq => exact hq.elim
  | .ok .brk, hq => exact hq.elim
  | .ok .cont, hq => exact hq.elim
end K33
/-! is_gang, is_deed, is_part, is_scene. -/
namespace K33
open PySem PySem.Spec PyProof.Rows L2
theorem ifT {c : Bool} {A B : Prop} (h : c = true) (k : A) : if c = true then A else B := by
  subst h
  exact iteT k
theorem ifF {c : Bool} {A B : Prop} (h : c = false) (k : B) : if c = true then A else B := by
  subst h
  exact iteF k
theorem qB {Q : VK} {H : Hp} {b c : Bool} (h : b = c) (q : Q (.bl c) H) : Q (.bl b) H := by
  rw [h]
  exact q
theorem eqS (x : Str) : decide (V.str x = V.str x) = true := decide_eq_true rfl
theorem neS {x y : Str} (h : x ≠ y) : decide (V.str x = V.str y) = false := decide_eq_false fun e => h (V.str.inj e)
theorem size5 : (5000 : Nat) < sizeLine := by decide
/-- two clauses: Pv by the outer turn -/
theorem lc2_it {J : It} {n : Nat} {G : Hp → Prop} {Y : Nat → Hp → V → Hp → Prop} (w : Walk J n G Y) {wi1 : TI} {g g1 : TG} {tt tt1 : TT} {te : TE} {vs vs1 : List Nat} {σ : L2.St} {H1 : Hp} {D : Addr} {Qd : Hp → Prop} (Pv : Nat → Hp → Prop) (h0 : Pv 0 (upd H1 D (.lst [])))
    (hG : ∀ i H, i ≤ n → Pv i H → G H)
    (hs : ∀ i x H H', i < n → Pv i H → Y i H x H' → g x (wipe σ vs) H' fun σ2 H2 => wipe σ2 vs = wipe σ vs ∧ tt σ2 H2 fun b H3 =>
      if b = true then wi1 σ2 H3 fun J1 H4 => ∃ W1 : Nat → Nat → Hp → Prop, (∃ m, W1 0 m H4) ∧ ∀ j k H, W1 j k H →
        (J1.stop j H ∧ Pv (i + 1) H) ∨ (J1.go j H ∧ ∃ Nx1 : Hp → Prop, (∀ H', Nx1 H' → ∃ k', k' < k ∧ W1 (j + 1) k' H') ∧ ∀ x H', J1.yld j H x H' → g1 x (wipe σ2 vs1) H' fun σ3 H5 => wipe σ3 vs1 = wipe σ2 vs1 ∧ tt1 σ3 H5 fun b H6 =>
          if b = true then te σ3 H6 fun y H7 => ∃ acc, H7 D = some (.lst acc) ∧ acc.length < sizeLine ∧ Nx1 (upd H7 D (.lst (acc ++ [y]))) else Nx1 H6)
      else Pv (i + 1) H3) (hd : ∀ H, Pv n H → Qd H) :
    ∃ W : Nat → Nat → Hp → Prop, (∃ m, W 0 m (upd H1 D (.lst []))) ∧ ∀ i m H, W i m H →
      (J.stop i H ∧ Qd H) ∨ (J.go i H ∧ ∃ Nx : Hp → Prop, (∀ H', Nx H' → ∃ m', m' < m ∧ W (i + 1) m' H') ∧ ∀ x H', J.yld i H x H' → g x (wipe σ vs) H' fun σ2 H2 => wipe σ2 vs = wipe σ vs ∧ tt σ2 H2 fun b H3 =>
        if b = true then wi1 σ2 H3 fun J1 H4 => ∃ W1 : Nat → Nat → Hp → Prop, (∃ m, W1 0 m H4) ∧ ∀ j k H, W1 j k H →
          (J1.stop j H ∧ Nx H) ∨ (J1.go j H ∧ ∃ Nx1 : Hp → Prop, (∀ H', Nx1 H' → ∃ k', k' < k ∧ W1 (j + 1) k' H') ∧ ∀ x H', J1.yld j H x H' → g1 x (wipe σ2 vs1) H' fun σ3 H5 => wipe σ3 vs1 = wipe σ2 vs1 ∧ tt1 σ3 H5 fun b H6 =>
            if b = true then te σ3 H6 fun y H7 => ∃ acc, H7 D = some (.lst acc) ∧ acc.length < sizeLine ∧ Nx1 (upd H7 D (.lst (acc ++ [y]))) else Nx1 H6)
        else Nx H3) := by
  refine ⟨fun i m H => m + i = n ∧ Pv i H, ⟨n, rfl, h0⟩, ?_⟩
  rintro i m H ⟨e, p⟩
  have q := hG i H (by omega) p
  by_cases hlt : i < n
  · exact .inr ⟨w.goes i H hlt q, Pv (i + 1), fun H' p' => ⟨m - 1, by omega, by omega, p'⟩, fun x H' y => hs i x H H' hlt p (w.yields i H x H' hlt q y)⟩
  · obtain rfl : i = n := by omega
    exact .inl ⟨w.stops H q, hd H p⟩
/-- the inner clause: Pv by its turn, Nx behind it -/
theorem lc2_in {J : It} {n : Nat} {G : Hp → Prop} {Y : Nat → Hp → V → Hp → Prop} (w : Walk J n G Y) {g1 : TG} {tt1 : TT} {te : TE} {vs1 : List Nat} {σ2 : L2.St} {H4 : Hp} {D : Addr} {Nx : Hp → Prop} (Pv : Nat → Hp → Prop) (h0 : Pv 0 H4) (hG : ∀ j H, j ≤ n → Pv j H → G H)
    (hs : ∀ j x H H', j < n → Pv j H → Y j H x H' → g1 x (wipe σ2 vs1) H' fun σ3 H5 => wipe σ3 vs1 = wipe σ2 vs1 ∧ tt1 σ3 H5 fun b H6 =>
      if b = true then te σ3 H6 fun y H7 => ∃ acc, H7 D = some (.lst acc) ∧ acc.length < sizeLine ∧ Pv (j + 1) (upd H7 D (.lst (acc ++ [y]))) else Pv (j + 1) H6) (hd : ∀ H, Pv n H → Nx H) :
    ∃ W1 : Nat → Nat → Hp → Prop, (∃ m, W1 0 m H4) ∧ ∀ j k H, W1 j k H →
      (J.stop j H ∧ Nx H) ∨ (J.go j H ∧ ∃ Nx1 : Hp → Prop, (∀ H', Nx1 H' → ∃ k', k' < k ∧ W1 (j + 1) k' H') ∧ ∀ x H', J.yld j H x H' → g1 x (wipe σ2 vs1) H' fun σ3 H5 => wipe σ3 vs1 = wipe σ2 vs1 ∧ tt1 σ3 H5 fun b H6 =>
        if b = true then te σ3 H6 fun y H7 => ∃ acc, H7 D = some (.lst acc) ∧ acc.length < sizeLine ∧ Nx1 (upd H7 D (.lst (acc ++ [y]))) else Nx1 H6) := by
  refine ⟨fun j k H => k + j = n ∧ Pv j H, ⟨n, rfl, h0⟩, ?_⟩
  rintro j k H ⟨e, p⟩
  have q := hG j H (by omega) p
  by_cases hlt : j < n
  · exact .inr ⟨w.goes j H hlt q, Pv (j + 1), fun H' p' => ⟨k - 1, by omega, by omega, p'⟩, fun x H' y => hs j x H H' hlt p (w.yields j H x H' hlt q y)⟩
  · obtain rfl : j = n := by omega
    exact .inl ⟨w.stops H q, hd H p⟩
/-- t[:n] -/
theorem init_of {K : PySem.W.Frag} {H : Hp} {a : Addr} {xs : List V} {n : Nat} {Q : VK} (h : SqT K H a xs) (q : ∀ b H', Same H H' → SqT K H' b (xs.take n) → Q (.ref b) H') : rSlA K (.ref a) none (some (n : Int)) H Q := by
  have e : HT.sIx xs.length xs.length (some (n : Int)) = min n xs.length := HT.sIx_nat _ _ n
  refine ⟨a, xs, rfl, h, fun z => ?_, fun _ p np => ?_⟩
  · refine q a H (fun _ _ z => z) ?_
    rw [List.take_of_length_le (by omega)]
    exact h
  · refine q p _ (same_new np) (.of ?_)
    rw [upd_same]
    unfold cutV
    rw [e, HT.sIx_none, List.drop_zero, Nat.sub_zero]
    by_cases hn : n ≤ xs.length
    · rw [Nat.min_eq_left hn]
    · rw [Nat.min_eq_right (by omega), List.take_length, List.take_of_length_le (by omega)]
theorem notin_ints {x : Int} : ∀ {ns : List Int}, x ∉ ns → inV (.int x) (ns.map V.int) = false
  | [], _ => rfl
  | n :: ns, h => by
    have ih := notin_ints (x := x) (ns := ns) fun z => h (List.mem_cons_of_mem _ z)
    have h1 : (n == x) = false := beq_eq_false_iff_ne.mpr fun e => h (by rw [e]; exact List.mem_cons_self)
    show ((n == x) || inV (.int x) (ns.map V.int)) = false
    rw [h1, ih] <;> rfl
theorem in_ints {x : Int} : ∀ {ns : List Int}, x ∈ ns → inV (.int x) (ns.map V.int) = true
  | n :: ns, h => by
    show ((n == x) || inV (.int x) (ns.map V.int)) = true
    rcases List.mem_cons.mp h with e | h
    · rw [e, beq_self_eq_true, Bool.true_or]
    · rw [in_ints h, Bool.or_true]
theorem flat_ints (ns : List Int) : (ns.map V.int).all flatV = true := by
  rw [List.all_eq_true]
  intro x hx
  obtain ⟨n, _, rfl⟩ := List.mem_map.mp hx
  rfl
theorem any_false (n : Nat) : (List.replicate n false).any id = false := by
  rw [List.any_eq_false]
  intro x hx
  rw [List.eq_of_mem_replicate hx]
  decide
def spGang (K : PySem.W.Frag) : Sp := fun vs H Q _ => ∃ (a : Addr) (gs : List V) (Gs : List (List Int)) (i : Nat) (g : List Int) (m : Int), vs = [.ref a, .int i, .int m] ∧ SqT K H a gs ∧ DpAll K H gs (Gs.map dInts) ∧ Gs.length ≤ 4 ∧ m ≤ 900 ∧ Gs[i]? = some g ∧
  (∀ x ∈ Gs, Rising x m ∧ 2 ≤ x.length) ∧ Gs.Pairwise gangLt ∧ ∀ H', Same H H' → Q (.bl true) H'
abbrev N_gang : List Str := ["gangs", "number", "lines", "gang", "own", "line"]
theorem sc_is_gang : FnScope N_gang ["gangs", "number", "lines"] (defScope s_is_gang) := ⟨rfl, rfl, rfl, by decide +kernel, rfl, by decide +kernel, by decide +kernel⟩
section
variable {P : Program} {w : World} {K : PySem.W.Frag} {mg : Str → Option Value} {base : Heap}
theorem cal_is_gang (T : Txt K mg) : C8.Cal P w K mg base 4 "is_gang" (spGang K) [] := by
  refine T.cal at_is_gang at_is_gang rfl rfl sc_is_gang (fun _ _ _ _ _ _ us hl => match us, hl with | [_, _, _], _ => rfl) (fun vs H Q E h => ?_) (fun f cdv A outer s H vs Q E hr h => ?_)
  · obtain ⟨a, gs, Gs, i, g, m, rfl, _⟩ := h
    rfl
  · obtain ⟨a, gs, Gs, i, g, m, rfl, hS, hD, hL, hm, hg, hR, hP, q⟩ := h
    refine ⟨_, pss_cons (ps_set (i := 3) sc_is_gang.nd rfl (Or.inr rfl) (pe_ix ix_tup (pv 0) (pv 1) (fun _ _ => rfl)))
      (pss_cons (ps_if (PW.pt (pw_or (pt_not (pt_val (C8.pe_c (cal_is_rising T) hr (by decide) (by rfl) (pa_cons (pv 3) (pa_cons (pv 2) pa_nil)))))
          (pw_or1 (pt_cmpR op_lt (pe_callB call_len_seq (by rfl) T.m_len bt_len (pa_cons (pv 3) pa_nil)) pe_int (nomark _))))) pss_never pss_nil)
      (pss_cons (ps_if (PW.pt (pw_and (pt_cmpR op_gt (pv 1) pe_int (nomark _)) (pw_and1 (pt_cmpR (op_geT hr.units0) (pe_ix ix_tup (pv 0) (pe_op op_sub (pv 1) pe_int) (fun _ _ => rfl)) (pv 3) (nomark _))))) pss_never pss_nil)
      (pss_one (ps_ret (pe_not (pe_callB (cr_any rfl) (by rfl) T.m_any bt_any (pa_cons (pe_lc2 (own := [("own", 4), ("line", 5)]) (vs1 := [5]) (g := gName 4) (tt := tYes) (g1 := gName 5) (tt1 := tYes) (wi1 := iTup K (tVar 3)) (te := tOp (rIn K false) (tVar 5) (tVar 4)) rfl sc_is_gang.nd (pi_tup (pe_slice sl_tupA (pv 0) po_none (po_some (pv 1)))) (blkOk_by (N := N_gang) (sc := defScope s_is_gang) (by decide +kernel)) (by decide)
        (fun _ _ _ _ _ => pg_name (i := 4) sc_is_gang.nd rfl (.inl rfl)) (fun _ _ _ _ _ => pts_nil) (fun _ _ _ _ _ => pi_tup (pv 3)) (fun _ _ _ _ _ => pg_name (i := 5) sc_is_gang.nd rfl (.inl rfl)) (fun _ _ _ _ _ => pts_nil) (fun _ _ _ _ _ => pe_cmpR op_in_seq (pv 5) (pv 4) (by rfl))) pa_nil))))))), ?_⟩
    have hi : i < Gs.length := (List.getElem?_eq_some_iff.mp hg).1
    have hgm := List.mem_of_getElem? hg
    have hb := hR g hgm
    obtain ⟨gv, eg, dg⟩ := dpAll_get hD (show (Gs.map dInts)[i]? = some (dInts g) by rw [List.getElem?_map, hg]; rfl)
    obtain ⟨ga, rfl, hgs⟩ := dp_ints dg
    have hlen : (g.length : Int) ≤ m := hb.1.len (by
      by_cases h0 : 0 ≤ m
      · exact h0
      · exfalso
        cases hc : g with
        | nil => rw [hc] at hb; exact absurd hb.2 (by decide)
        | cons x r =>
          have := hb.1.1 x (by rw [hc]; exact List.mem_cons_self)
          omega)
    refine ⟨_, rfl, _, rfl, a, _, _, _, rfl, rfl, hS, atI_nat eg, ?_⟩
    refine ⟨_, rfl, _, rfl, ga, g, m, rfl, hgs, hb.1, by omega, fun H1 s1 => ⟨_, rfl, iteF ?_⟩⟩
    refine ⟨_, rfl, ga, _, rfl, .inr ((same_fix s1).seqT hgs), _, _, rfl, rfl, _, rfl, ?_⟩
    refine ifF (decide_eq_false (by rw [List.length_map]; omega)) ?_
    refine ⟨_, rfl, _, _, rfl, rfl, _, rfl, ?_⟩
    by_cases h0 : i = 0
    refine ifF (decide_eq_false (by omega)) ?_
    refine iteF ?_
    rotate_left 1
    refine ifT (decide_eq_true (by omega)) ?_
    have hj : i - 1 < Gs.length := by omega
    obtain ⟨pv, ep, dp⟩ := dpAll_get hD (show (Gs.map dInts)[i - 1]? = some (dInts Gs[i - 1]) by rw [List.getElem?_map, List.getElem?_eq_getElem hj]; rfl)
    obtain ⟨pa, rfl, hps⟩ := dp_ints dp
    have eg2 : Gs[i] = g := Option.some.inj ((List.getElem?_eq_getElem hi).symm.trans hg)
    have hlt := (List.pairwise_iff_getElem.mp hP (i - 1) i hj hi (by omega)).1
    rw [eg2] at hlt
    refine ⟨_, rfl, _, rfl, _, _, rfl, rfl, a, _, _, _, rfl, rfl, (same_fix s1).seqT hS, at_of (show ((i : Int) - 1) = ((i - 1 : Nat) : Int) by omega) ep, _, rfl, pa, ga, _, _, rfl, rfl, (same_fix s1).seqT hps, (same_fix s1).seqT hgs, _, rfl, ?_⟩
    refine ifF (geL_lt hlt) ?_
    rotate_left 1
    all_goals
      refine ⟨_, rfl, _, rfl, _, rfl, init_of ((same_fix s1).seqT hS) fun b H2 s2 hb2 => ?_⟩
      refine ⟨b, rfl, ⟨_, hb2⟩, fun D nD => ?_⟩
      have dI := dpAll_take i (DpAll.fix (same_fix (s1.trans s2)) _ _ hD)
      refine lc2_it (G := fun H => SqT K H b (gs.take i)) (n := (gs.take i).length) walk_tup (fun k H => Same H2 H ∧ ∃ N, N ≤ 1000 * k ∧ H D = some (.lst ((List.replicate N false).map V.bl))) ⟨same_new nD, 0, Nat.zero_le _, upd_same⟩ (fun k H _ p => (same_fix p.1).seqT hb2) ?_ ?_
      · rintro k x H3 H4 hk ⟨s3, N, hN, eD⟩ ⟨rfl, ex⟩
        obtain ⟨dd, ed, dx⟩ := dpAll_at dI ex
        have hk2 : k < i ∧ k < Gs.length := by
          have := (List.getElem?_eq_some_iff.mp ed).1
          rw [List.length_take, List.length_map] at this
          omega
        rw [List.getElem?_take_of_lt hk2.1, List.getElem?_map, List.getElem?_eq_getElem hk2.2] at ed
        obtain rfl := Option.some.inj ed
        obtain ⟨oa, rfl, hos⟩ := dp_ints dx
        have hdis : ∀ z ∈ g, z ∉ Gs[k] := by
          have eg2 : Gs[i] = g := Option.some.inj ((List.getElem?_eq_getElem hi).symm.trans hg)
          have := (List.pairwise_iff_getElem.mp hP k i hk2.2 hi hk2.1).2
          rw [eg2] at this
          exact this
        refine ⟨rfl, ⟨_, rfl, ga, rfl, ⟨_, (same_fix ((s1.trans s2).trans s3)).seqT hgs⟩, ?_⟩⟩
        refine lc2_in (G := fun H => SqT K H ga (g.map V.int)) (n := (g.map V.int).length) walk_tup (fun j H => Same H2 H ∧ ∃ N, N ≤ 1000 * k + j ∧ H D = some (.lst ((List.replicate N false).map V.bl))) ⟨s3, N, hN, eD⟩ (fun j H _ p => (same_fix ((s1.trans s2).trans p.1)).seqT hgs) ?_ ?_
        · rintro j x H5 H6 hj ⟨s5, N5, hN5, eD5⟩ ⟨rfl, ex⟩
          obtain ⟨n, hn, rfl⟩ := int_at ex
          refine ⟨rfl, ⟨_, rfl, _, rfl, oa, Gs[k].map V.int, rfl, .inr ((same_fix s5).seqT hos), rfl, flat_ints _, ?_⟩⟩
          rw [List.length_map] at hj
          refine ⟨_, eD5, ?_, same_at nD s5, N5 + 1, by omega, ?_⟩
          · rw [List.length_map, List.length_replicate]
            have := size5
            omega
          · rw [upd_same]
            show some (HO.lst ((List.replicate N5 false).map V.bl ++ [V.bl (inV (.int n) (Gs[k].map V.int))])) = _
            rw [notin_ints (hdis n hn), List.replicate_succ', List.map_append]
            rfl
        · rintro H5 ⟨s5, N5, hN5, eD5⟩
          refine ⟨s5, N5, ?_, eD5⟩
          rw [List.length_map] at hN5
          omega
      · rintro H3 ⟨s3, N, hN, eD⟩
        refine ⟨D, _, rfl, .of eD, _, rfl, ?_⟩
        rw [any_false]
        exact q H3 ((s1.trans s2).trans s3)
end
end K33
/-! is_deed, is_part, is_scene. -/
namespace K33
open PySem PySem.Spec PyProof.Rows L2
def spDeed (K : PySem.W.Frag) : Sp := fun vs H Q _ => ∃ (a : Addr) (mute : Bool) (l m : Int) (d : Deed), vs = [.str (kindS mute), .int l, .int m, .ref a] ∧ SqT K H a (d.w.map W.v) ∧ DeedOk mute l m d ∧ ∀ H', Same H H' → Q (.bl true) H'
def spPart (K : PySem.W.Frag) : Sp := fun vs H Q _ => ∃ (a : Addr) (mute : Bool) (l m : Int), vs = [.ref a, .int m] ∧ SqT K H a [.str (kindS mute), .int l] ∧ (0 ≤ l ∧ l < m) ∧ ∀ H', Same H H' → Q (.bl true) H'
def spScene (K : PySem.W.Frag) : Sp := fun vs H Q _ => ∃ (v : V) (es : List Ent) (m : Int), vs = [v, .int m] ∧ Dp K H v (scD es) ∧ SceneOk m es ∧ ∀ H', Same H H' → Q (.bl true) H'
abbrev N_deed : List Str := ["kind", "line", "lines", "thing"]
abbrev N_part : List Str := ["thing", "lines"]
abbrev N_scene : List Str := ["thing", "lines", "entry", "one", "other"]
theorem sc_is_deed : FnScope N_deed N_deed (defScope s_is_deed) := ⟨rfl, rfl, rfl, by decide +kernel, rfl, by decide +kernel, by decide +kernel⟩
theorem sc_is_part : FnScope N_part N_part (defScope s_is_part) := ⟨rfl, rfl, rfl, by decide +kernel, rfl, by decide +kernel, by decide +kernel⟩
theorem sc_is_scene : FnScope N_scene ["thing", "lines"] (defScope s_is_scene) := ⟨rfl, rfl, rfl, by decide +kernel, rfl, by decide +kernel, by decide +kernel⟩
theorem n_as_kept : ("as" : Str) ≠ "kept" := by decide +kernel
theorem n_as_turn : ("as" : Str) ≠ "turn" := by decide +kernel
theorem n_to_kept : ("to" : Str) ≠ "kept" := by decide +kernel
theorem n_to_turn : ("to" : Str) ≠ "turn" := by decide +kernel
theorem n_to_as : ("to" : Str) ≠ "as" := by decide +kernel
theorem n_by_kept : ("by" : Str) ≠ "kept" := by decide +kernel
theorem n_by_turn : ("by" : Str) ≠ "turn" := by decide +kernel
theorem n_by_as : ("by" : Str) ≠ "as" := by decide +kernel
theorem n_fader_mute : ("fader" : Str) ≠ "mute" := by decide +kernel
theorem n_turn_kept : ("turn" : Str) ≠ "kept" := by decide +kernel
theorem in_to : inV (V.str "to") [V.str "to", V.str "by"] = true := by decide +kernel
theorem in_by : inV (V.str "by") [V.str "to", V.str "by"] = true := by decide +kernel
/-- the deed's first word -/
def Deed.nm : Deed → Str
  | .to _ => "to"
  | .by_ _ => "by"
  | .turn => "turn"
  | .kept => "kept"
  | .as_ _ => "as"
def Deed.xs : Deed → List V
  | .to x => [.int x]
  | .by_ x => [.int x]
  | .turn => []
  | .kept => []
  | .as_ x => [.int x]
theorem deed_vs (d : Deed) : d.w.map W.v = .str d.nm :: d.xs := by cases d <;> rfl
theorem lay_str {x : Str} (h : PyData.strOk x = true) : PyData.canLay0 (.str x) = true := by
  unfold PyData.canLay0
  exact h
theorem lay_int (n : Int) : PyData.canLay0 (.int n) = true := by unfold PyData.canLay0; rfl
theorem lay_tup {ds : List PyData} (h : ∀ d ∈ ds, PyData.canLay0 d = true) : PyData.canLay0 (.tuple ds) = true := by
  unfold PyData.canLay0
  induction ds with
  | nil =>
    unfold PyData.canLayAll0
    rfl
  | cons d ds ih =>
    unfold PyData.canLayAll0
    rw [h d List.mem_cons_self, ih fun e he => h e (List.mem_cons_of_mem _ he)]
    rfl
theorem dep_str (x : Str) : PyData.depth (.str x) = 0 := by unfold PyData.depth; rfl
theorem dep_int (n : Int) : PyData.depth (.int n) = 0 := by unfold PyData.depth; rfl
theorem dep_tup {ds : List PyData} {k : Nat} (h : ∀ d ∈ ds, PyData.depth d ≤ k) : PyData.depth (.tuple ds) ≤ k + 1 := by
  unfold PyData.depth
  refine Nat.succ_le_succ ?_
  induction ds with
  | nil =>
    unfold PyData.depthAll
    exact Nat.zero_le _
  | cons d ds ih =>
    unfold PyData.depthAll
    exact Nat.max_le.mpr ⟨h d List.mem_cons_self, ih fun e he => h e (List.mem_cons_of_mem _ he)⟩
theorem shaped_by {d : PyData} {k : Nat} (h : PyData.canLay0 d = true) (hd : PyData.depth d ≤ k) (hk : k ≤ 64) : SeqAt.shaped d = true := by
  unfold SeqAt.shaped
  rw [h, decide_eq_true (Nat.le_trans hd hk)]
  rfl
def W.sound : W → Prop
  | .s x => PyData.strOk x = true
  | .i _ => True
theorem lay_ws {ws : List W} (h : ∀ u ∈ ws, u.sound) : PyData.canLay0 (wsD ws) = true := lay_tup fun d hd => by
  obtain ⟨u, hu, rfl⟩ := List.mem_map.mp hd
  have q := h u hu
  cases u with
  | s x => exact lay_str q
  | i n => exact lay_int n
theorem dep_ws {ws : List W} : PyData.depth (wsD ws) ≤ 1 := dep_tup (k := 0) fun d hd => by
  obtain ⟨u, hu, rfl⟩ := List.mem_map.mp hd
  cases u with
  | s x => exact Nat.le_of_eq (dep_str x)
  | i n => exact Nat.le_of_eq (dep_int n)
theorem sound_to : PyData.strOk "to" = true := by decide +kernel
theorem sound_by : PyData.strOk "by" = true := by decide +kernel
theorem sound_turn : PyData.strOk "turn" = true := by decide +kernel
theorem sound_kept : PyData.strOk "kept" = true := by decide +kernel
theorem sound_as : PyData.strOk "as" = true := by decide +kernel
theorem sound_mute : PyData.strOk "mute" = true := by decide +kernel
theorem sound_fader : PyData.strOk "fader" = true := by decide +kernel
theorem sound_deed (d : Deed) : ∀ u ∈ d.w, u.sound := by
  intro u hu
  cases d <;> (simp only [Deed.w, List.mem_cons, List.not_mem_nil, or_false] at hu)
  · rcases hu with rfl | rfl
    · exact sound_to
    · trivial
  · rcases hu with rfl | rfl
    · exact sound_by
    · trivial
  · rw [hu]
    exact sound_turn
  · rw [hu]
    exact sound_kept
  · rcases hu with rfl | rfl
    · exact sound_as
    · trivial
theorem sound_kind (m : Bool) : PyData.strOk (kindS m) = true := by
  cases m
  · exact sound_fader
  · exact sound_mute
theorem shaped_deed (d : Deed) : SeqAt.shaped (wsD d.w) = true := shaped_by (lay_ws (sound_deed d)) dep_ws (by decide)
theorem shaped_nil : SeqAt.shaped (.tuple []) = true := by decide +kernel
theorem eqv_ws_nil {d : Deed} : PyData.eqv (wsD d.w) (.tuple []) = false := by
  unfold wsD PyData.eqv
  cases d <;> (unfold PyData.eqvAll; rfl)
section
variable {P : Program} {w : World} {K : PySem.W.Frag} {mg : Str → Option Value} {base : Heap}
theorem cal_is_part (T : Txt K mg) : C8.Cal P w K mg base 3 "is_part" (spPart K) [] := by
  refine T.cal at_is_part at_is_part rfl rfl sc_is_part (fun _ _ _ _ _ _ us hl => match us, hl with | [_, _], _ => rfl) (fun vs H Q E h => ?_) (fun f cdv A outer s H vs Q E hr h => ?_)
  · obtain ⟨a, b, l, m, rfl, _⟩ := h
    rfl
  · obtain ⟨a, mute, l, m, rfl, hS, hb, q⟩ := h
    refine ⟨_, pss_cons (ps_if (PW.pt (pw_or (pt_not (pt_val (pe_callB call_isTup (by rfl) T.m_isinstance bt_isinstance (pa_cons (pv 0) (pa_cons (pe_bltn (v := .ty "tuple") (by rfl) T.m_tuple bt_tuple rfl) pa_nil)))))
        (pw_or (pt_cmpR op_ne (pe_callB call_len_seq (by rfl) T.m_len bt_len (pa_cons (pv 0) pa_nil)) pe_int (nomark _))
        (pw_or1 (pt_not (pt_val (pe_callB call_isW (by rfl) T.m_isinstance bt_isinstance (pa_cons (pe_ix ix_tup (pv 0) pe_int (fun _ _ => rfl)) (pa_cons (pe_bltn (v := .ty "str") (by rfl) T.m_str bt_str rfl) pa_nil))))))))) pss_never pss_nil)
      (pss_one (ps_ret (pe_and (pe_cmpR op_in_seq (pe_ix ix_tup (pv 0) pe_int (fun _ _ => rfl)) (pe_tup (pa_cons (C8.pe_gc (by rfl) T.FADER) (pa_cons (C8.pe_gc (by rfl) T.MUTE) pa_nil))) (by rfl))
        (pe_one (C8.pe_c (cal_is_whole T) hr (by decide) (by rfl) (pa_cons (pe_ix ix_tup (pv 0) pe_int (fun _ _ => rfl)) (pa_cons pe_int (pa_cons (pe_op op_sub (pv 1) pe_int) pa_nil)))))))), ?_⟩
    refine ⟨_, rfl, a, _, rfl, hS, _, rfl, iteF ?_⟩
    refine ⟨_, rfl, a, _, rfl, .inr hS, rfl, _, rfl, ifF (by rfl) ?_⟩
    refine ⟨_, rfl, a, _, 0, _, rfl, rfl, hS, atI_nat (j := 0) rfl, .s (kindS mute), rfl, _, rfl, iteF ?_⟩
    refine ⟨_, rfl, a, _, 0, _, rfl, rfl, hS, atI_nat (j := 0) rfl, by decide, fun p np => ⟨p, _, rfl, .inr sqT_new, rfl, rfl, _, rfl, ?_⟩⟩
    have s1 : Same H (upd H p (.tup [V.str "fader", V.str "mute"])) := same_new np
    refine ifT ?_ ?_
    · cases mute <;> decide +kernel
    · refine ⟨_, rfl, a, _, 1, _, rfl, rfl, (same_fix s1).seqT hS, atI_nat (j := 1) rfl, _, rfl, m, 1, rfl, rfl, l, 0, m - 1, rfl, ?_⟩
      rw [decide_eq_true hb.1, decide_eq_true (show l ≤ m - 1 by omega)]
      exact q _ s1
theorem cal_is_deed (T : Txt K mg) : C8.Cal P w K mg base 3 "is_deed" (spDeed K) [] := by
  refine T.cal at_is_deed at_is_deed rfl rfl sc_is_deed (fun _ _ _ _ _ _ us hl => match us, hl with | [_, _, _, _], _ => rfl) (fun vs H Q E h => ?_) (fun f cdv A outer s H vs Q E hr h => ?_)
  · obtain ⟨a, b, l, m, d, rfl, _⟩ := h
    rfl
  · obtain ⟨a, mute, l, m, d, rfl, hS, hd, q⟩ := h
    refine ⟨_, pss_cons (ps_if (PW.pt (pw_or (pt_not (pt_val (pe_callB call_isTup (by rfl) T.m_isinstance bt_isinstance (pa_cons (pv 3) (pa_cons (pe_bltn (v := .ty "tuple") (by rfl) T.m_tuple bt_tuple rfl) pa_nil)))))
        (pw_or (pt_cmpR (op_eqD hr.units) (pv 3) (pe_tup pa_nil) (nomark _))
        (pw_or1 (pt_not (pt_val (pe_callB call_isW (by rfl) T.m_isinstance bt_isinstance (pa_cons (pe_ix ix_tup (pv 3) pe_int (fun _ _ => rfl)) (pa_cons (pe_bltn (v := .ty "str") (by rfl) T.m_str bt_str rfl) pa_nil))))))))) pss_never pss_nil)
      (pss_cons (ps_if (PW.pt (pw_or (pt_cmpR op_eq (pe_ix ix_tup (pv 3) pe_int (fun _ _ => rfl)) (C8.pe_gc (by rfl) T.KEPT) (nomark _))
        (pw_or1 (PW.pt (pw_and (pt_cmpR op_eq (pe_ix ix_tup (pv 3) pe_int (fun _ _ => rfl)) (C8.pe_gc (by rfl) T.TURN) (nomark _)) (pw_and1 (pt_cmpR op_eq (pv 0) (C8.pe_gc (by rfl) T.MUTE) (nomark _)))))))) (pss_one (ps_ret (pe_cmpR op_eq (pe_callB call_len_seq (by rfl) T.m_len bt_len (pa_cons (pv 3) pa_nil)) pe_int (nomark _)))) pss_nil)
      (pss_cons (ps_if (pt_cmpR op_ne (pe_callB call_len_seq (by rfl) T.m_len bt_len (pa_cons (pv 3) pa_nil)) pe_int (nomark _)) pss_never pss_nil)
      (pss_cons (ps_if (pt_cmpR op_eq (pe_ix ix_tup (pv 3) pe_int (fun _ _ => rfl)) (C8.pe_gc (by rfl) T.AS) (nomark _))
        (pss_one (ps_ret (pe_and (C8.pe_c (cal_is_whole T) hr (by decide) (by rfl) (pa_cons (pe_ix ix_tup (pv 3) pe_int (fun _ _ => rfl)) (pa_cons pe_int (pa_cons (pe_op op_sub (pv 2) pe_int) pa_nil)))) (pe_one (pe_cmpR op_ne (pe_ix ix_tup (pv 3) pe_int (fun _ _ => rfl)) (pv 1) (nomark _)))))) pss_nil)
      (pss_cons (ps_if (pt_cmpR op_eq (pv 0) (C8.pe_gc (by rfl) T.MUTE) (nomark _))
        (pss_one (ps_ret (pe_and (pe_cmpR op_eq (pe_ix ix_tup (pv 3) pe_int (fun _ _ => rfl)) (C8.pe_gc (by rfl) T.TO) (nomark _)) (pe_one (C8.pe_c (cal_is_whole T) hr (by decide) (by rfl) (pa_cons (pe_ix ix_tup (pv 3) pe_int (fun _ _ => rfl)) (pa_cons pe_int (pa_cons pe_int pa_nil)))))))) pss_nil)
      (pss_one (ps_ret (pe_and (pe_cmpR op_in_seq (pe_ix ix_tup (pv 3) pe_int (fun _ _ => rfl)) (pe_tup (pa_cons (C8.pe_gc (by rfl) T.TO) (pa_cons (C8.pe_gc (by rfl) T.BY) pa_nil))) (by rfl))
        (pe_one (C8.pe_c (cal_is_whole T) hr (by decide) (by rfl) (pa_cons (pe_ix ix_tup (pv 3) pe_int (fun _ _ => rfl)) (pa_cons (pe_un un_neg (C8.pe_gc (by rfl) T.MOST_SET)) (pa_cons (C8.pe_gc (by rfl) T.MOST_SET) pa_nil)))))))))))), ?_⟩
    refine ⟨_, rfl, a, _, rfl, hS, _, rfl, iteF ?_⟩
    refine ⟨_, rfl, by decide, fun p np => ?_⟩
    have s1 : Same H (upd H p (.tup [])) := same_new np
    have h1 := (same_fix s1).seqT hS
    generalize hH1 : upd H p (.tup []) = H1 at s1 h1
    refine ⟨wsD d.w, .tuple [], ws_dp h1, .tup (by rw [← hH1]; exact sqT_new) .nil, shaped_deed d, shaped_nil, _, rfl, ifF eqv_ws_nil ?_⟩
    rw [deed_vs] at h1
    refine ⟨_, rfl, a, _, 0, _, rfl, rfl, h1, atI_nat (j := 0) rfl, .s d.nm, rfl, _, rfl, iteF ?_⟩
    refine ⟨_, rfl, a, _, 0, _, rfl, rfl, h1, atI_nat (j := 0) rfl, rfl, _, rfl, ?_⟩
    cases d with
    | kept =>
      refine ifT (eqS _) (iteT ⟨_, rfl, a, _, rfl, .inr h1, rfl, qB (decide_eq_true rfl) (q H1 s1)⟩)
    | turn =>
      obtain rfl : mute = true := hd
      refine ifF (neS (by decide +kernel)) ?_
      refine ⟨_, rfl, a, _, 0, _, rfl, rfl, h1, atI_nat (j := 0) rfl, rfl, _, rfl, ifT (eqS _) ⟨_, rfl, rfl, _, rfl, ifT (eqS _) ?_⟩⟩
      exact ⟨_, rfl, a, _, rfl, .inr h1, rfl, qB (decide_eq_true rfl) (q H1 s1)⟩
    | as_ x =>
      refine ifF (neS n_as_kept) ?_
      refine ⟨_, rfl, a, _, 0, _, rfl, rfl, h1, atI_nat (j := 0) rfl, rfl, _, rfl, ifF (neS n_as_turn) (iteF ?_)⟩
      refine ⟨_, rfl, a, _, rfl, .inr h1, rfl, _, rfl, ifF (by rfl) ?_⟩
      refine ⟨_, rfl, a, _, 0, _, rfl, rfl, h1, atI_nat (j := 0) rfl, rfl, _, rfl, ?_⟩
      refine ifT (eqS _) ?_
      obtain ⟨b1, b2, b3⟩ := hd
      refine ⟨_, rfl, a, _, 1, _, rfl, rfl, h1, atI_nat (j := 1) rfl, _, rfl, m, 1, rfl, rfl, x, 0, m - 1, rfl, ?_⟩
      rw [decide_eq_true b1, decide_eq_true (show x ≤ m - 1 by omega)]
      refine ⟨_, rfl, iteT ⟨_, rfl, a, _, 1, _, rfl, rfl, h1, atI_nat (j := 1) rfl, _, rfl, rfl, qB ?_ (q H1 s1)⟩⟩
      show (!decide (V.int x = V.int l)) = true
      rw [decide_eq_false fun e => b3 (V.int.inj e)]
      rfl
    | to x =>
      refine ifF (neS n_to_kept) ?_
      refine ⟨_, rfl, a, _, 0, _, rfl, rfl, h1, atI_nat (j := 0) rfl, rfl, _, rfl, ifF (neS n_to_turn) (iteF ?_)⟩
      refine ⟨_, rfl, a, _, rfl, .inr h1, rfl, _, rfl, ifF (by rfl) ?_⟩
      refine ⟨_, rfl, a, _, 0, _, rfl, rfl, h1, atI_nat (j := 0) rfl, rfl, _, rfl, ?_⟩
      refine ifF (neS n_to_as) ?_
      cases mute with
      | true =>
        have hd : 0 ≤ x ∧ x ≤ 1 := hd
        refine ⟨_, rfl, rfl, _, rfl, ifT (eqS _) ?_⟩
        refine ⟨_, rfl, a, _, 0, _, rfl, rfl, h1, atI_nat (j := 0) rfl, rfl, _, rfl, ifT (eqS _) ?_⟩
        refine ⟨_, rfl, a, _, 1, _, rfl, rfl, h1, atI_nat (j := 1) rfl, x, 0, 1, rfl, ?_⟩
        rw [decide_eq_true hd.1, decide_eq_true hd.2]
        exact q H1 s1
      | false =>
        have hd : -1000000 ≤ x ∧ x ≤ 1000000 := hd
        refine ⟨_, rfl, rfl, _, rfl, ifF (neS n_fader_mute) ?_⟩
        refine ⟨_, rfl, a, _, 0, _, rfl, rfl, h1, atI_nat (j := 0) rfl, by decide, fun p2 np2 => ⟨p2, _, rfl, .inr sqT_new, rfl, rfl, _, rfl, ifT in_to ?_⟩⟩
        have s2 := s1.trans (same_new (o := .tup [V.str "to", V.str "by"]) np2)
        refine ⟨_, rfl, a, _, 1, _, rfl, rfl, (same_fix (same_new np2)).seqT h1, atI_nat (j := 1) rfl, _, rfl, x, -1000000, 1000000, rfl, ?_⟩
        rw [decide_eq_true hd.1, decide_eq_true hd.2]
        exact q _ s2
    | by_ x =>
      refine ifF (neS n_by_kept) ?_
      refine ⟨_, rfl, a, _, 0, _, rfl, rfl, h1, atI_nat (j := 0) rfl, rfl, _, rfl, ifF (neS n_by_turn) (iteF ?_)⟩
      refine ⟨_, rfl, a, _, rfl, .inr h1, rfl, _, rfl, ifF (by rfl) ?_⟩
      refine ⟨_, rfl, a, _, 0, _, rfl, rfl, h1, atI_nat (j := 0) rfl, rfl, _, rfl, ?_⟩
      refine ifF (neS n_by_as) ?_
      obtain ⟨rfl, hd⟩ : mute = false ∧ -1000000 ≤ x ∧ x ≤ 1000000 := hd
      refine ⟨_, rfl, rfl, _, rfl, ifF (neS n_fader_mute) ?_⟩
      refine ⟨_, rfl, a, _, 0, _, rfl, rfl, h1, atI_nat (j := 0) rfl, by decide, fun p2 np2 => ⟨p2, _, rfl, .inr sqT_new, rfl, rfl, _, rfl, ifT in_by ?_⟩⟩
      have s2 := s1.trans (same_new (o := .tup [V.str "to", V.str "by"]) np2)
      refine ⟨_, rfl, a, _, 1, _, rfl, rfl, (same_fix (same_new np2)).seqT h1, atI_nat (j := 1) rfl, _, rfl, x, -1000000, 1000000, rfl, ?_⟩
      rw [decide_eq_true hd.1, decide_eq_true hd.2]
      exact q _ s2
end
end K33
/-! is_scene. -/
namespace K33
open PySem PySem.Spec PyProof.Rows L2
def partD (m : Bool) (l : Int) : PyData := wsD [.s (kindS m), .i l]
theorem alike_part (m n : Bool) (k l : Int) : PySem.W.alike (partD m k) (partD n l) = true := by
  show PySem.W.alike (.tuple [.str (kindS m), .int k]) (.tuple [.str (kindS n), .int l]) = true
  unfold PySem.W.alike PySem.W.alikeAll PySem.W.alike PySem.W.alikeAll PySem.W.alike PySem.W.alikeAll
  rfl
theorem eqv_str (x y : Str) : PyData.eqv (.str x) (.str y) = (x == y) := by unfold PyData.eqv; rfl
theorem eqv_int (x y : Int) : PyData.eqv (.int x) (.int y) = (x == y) := by unfold PyData.eqv; rfl
theorem alike_str (x y : Str) : PySem.W.alike (.str x) (.str y) = true := by unfold PySem.W.alike; rfl
theorem alike_int (x y : Int) : PySem.W.alike (.int x) (.int y) = true := by unfold PySem.W.alike; rfl
theorem part_lt {m n : Bool} {k l : Int} (h : (m = false ∧ n = true) ∨ (m = n ∧ k < l)) : PySem.W.dataLt (partD m k) (partD n l) = true := by
  show PySem.W.dataLt (.tuple [.str (kindS m), .int k]) (.tuple [.str (kindS n), .int l]) = true
  rw [PySem.W.dataLt_tuple, PySem.W.dataLt_cons (alike_str _ _), eqv_str]
  rcases h with ⟨rfl, rfl⟩ | ⟨rfl, h⟩
  · rw [if_neg (by decide +kernel), PySem.W.dataLt_str]
    decide +kernel
  · rw [beq_self_eq_true, if_pos rfl, PySem.W.dataLt_cons (alike_int _ _), eqv_int, if_neg (by rw [beq_iff_eq]; omega), PySem.W.dataLt_int]
    exact decide_eq_true h
theorem dp_ent {K : PySem.W.Frag} {H : Hp} {v : V} {e : Ent} (h : Dp K H v e.d) : ∃ a p q, v = .ref a ∧ SqT K H a [.ref p, .ref q] ∧ SqT K H p [.str (kindS e.mute), .int e.line] ∧ SqT K H q (e.deed.w.map W.v) := by
  obtain ⟨a, xs, rfl, hs, hd⟩ := dp_tup h
  cases hd with
  | cons h1 h2 =>
    cases h2 with
    | cons h2 h3 =>
      cases h3
      obtain ⟨p, rfl, hp⟩ := dp_ws h1
      obtain ⟨q, rfl, hq⟩ := dp_ws h2
      exact ⟨a, p, q, rfl, hs, hp, hq⟩
theorem ent_dp {K : PySem.W.Frag} {H : Hp} {a p q : Addr} {e : Ent} (h1 : SqT K H a [.ref p, .ref q]) (h2 : SqT K H p [.str (kindS e.mute), .int e.line]) (h3 : SqT K H q (e.deed.w.map W.v)) : Dp K H (.ref a) e.d :=
  .tup h1 (.cons (ws_dp (ws := [.s (kindS e.mute), .i e.line]) h2) (.cons (ws_dp h3) .nil))
section
variable {P : Program} {w : World} {K : PySem.W.Frag} {mg : Str → Option Value} {base : Heap}
theorem cal_is_scene (T : Txt K mg) : C8.Cal P w K mg base 4 "is_scene" (spScene K) [] := by
  refine T.cal at_is_scene at_is_scene rfl rfl sc_is_scene (fun _ _ _ _ _ _ us hl => match us, hl with | [_, _], _ => rfl) (fun vs H Q E h => ?_) (fun f cdv A outer s H vs Q E hr h => ?_)
  · obtain ⟨v, es, m, rfl, _⟩ := h
    rfl
  · obtain ⟨v, es, m, rfl, hd, hok, q⟩ := h
    refine ⟨_, pss_cons (ps_if (pt_not (pt_val (C8.pe_c (cal_is_some T) hr (by decide) (by rfl) (pa_cons (pv 0) (pa_cons (C8.pe_gc (by rfl) T.MOST_ENTRIES) pa_nil))))) pss_never pss_nil)
      (pss_cons (ps_for PassesOwn.never rfl (pi_tup (pv 0)) (pg_name (i := 2) sc_is_scene.nd rfl (.inl rfl))
        (pss_cons (ps_if (PW.pt (pw_or (pt_not (pt_val (pe_callB call_isTup (by rfl) T.m_isinstance bt_isinstance (pa_cons (pv 2) (pa_cons (pe_bltn (v := .ty "tuple") (by rfl) T.m_tuple bt_tuple rfl) pa_nil)))))
          (pw_or (pt_cmpR op_ne (pe_callB call_len_seq (by rfl) T.m_len bt_len (pa_cons (pv 2) pa_nil)) pe_int (nomark _))
          (pw_or1 (pt_not (pt_val (C8.pe_c (cal_is_part T) hr (by decide) (by rfl) (pa_cons (pe_ix ix_tup (pv 2) pe_int (fun _ _ => rfl)) (pa_cons (pv 1) pa_nil))))))))) pss_never pss_nil)
        (pss_one (ps_if (pt_not (pt_val (C8.pe_c (cal_is_deed T) hr (by decide) (by rfl) (pa_cons (pe_ix ix_tup (pe_ix ix_tup (pv 2) pe_int (fun _ _ => rfl)) pe_int (fun _ _ => rfl)) (pa_cons (pe_ix ix_tup (pe_ix ix_tup (pv 2) pe_int (fun _ _ => rfl)) pe_int (fun _ _ => rfl))
          (pa_cons (pv 1) (pa_cons (pe_ix ix_tup (pv 2) pe_int (fun _ _ => rfl)) pa_nil))))))) pss_never pss_nil))))
      (pss_one (ps_ret (pe_callB (cr_all rfl) (by rfl) T.m_all bt_all (pa_cons (pe_lc (own := [("one", 3), ("other", 4)]) (g := gTup K 2 (gCons (gName 3) (gCons (gName 4) gNil))) (tt := tYes) (te := tOp (rLtD K) (tOp (rIxT K) (tVar 3) (tC (.int 0))) (tOp (rIxT K) (tVar 4) (tC (.int 0)))) rfl sc_is_scene.nd
          (RZ.pi_zipA (by rfl) T.m_zip (pa_cons (pv 0) (pa_cons (pe_slice sl_tupA (pv 0) (po_some pe_int) po_none) pa_nil))) (blkOk_by (N := N_scene) (sc := defScope s_is_scene) (by decide +kernel))
          (fun _ _ _ _ _ => pg_tup rfl (pgs_cons (pg_name (i := 3) sc_is_scene.nd rfl (.inl rfl)) (pgs_cons (pg_name (i := 4) sc_is_scene.nd rfl (.inl rfl)) pgs_nil))) (fun _ _ _ _ _ => pts_nil)
          (fun _ _ _ _ _ => pe_cmpR (op_ltD hr.units) (pe_ix ix_tup (pv 3) pe_int (fun _ _ => rfl)) (pe_ix ix_tup (pv 4) pe_int (fun _ _ => rfl)) (nomark _))) pa_nil))))), ?_⟩
    obtain ⟨hl, he, hp⟩ := hok
    obtain ⟨a, vs, rfl, hS, hD⟩ := dp_tup hd
    have hvl : vs.length = es.length := by
      rw [dpAll_len hD, List.length_map]
    refine ⟨_, rfl, a, vs, 12, rfl, hS, _, rfl, ?_⟩
    rw [decide_eq_true (by omega)]
    refine iteF ?_
    refine ⟨_, rfl, a, rfl, ⟨_, hS⟩, ?_⟩
    refine for_tup (fun i σ' H' => Same H H' ∧ ∃ x, σ' = [some (.ref a), some (.int m), x, none, none]) ⟨fun _ _ z => z, _, rfl⟩ (fun i σ' H' _ p => (same_fix p.1).seqT hS) ?_ ?_
    · rintro i x σ' H1 ex ⟨s1, y, rfl⟩
      obtain ⟨dd, ed, dx⟩ := dpAll_at (DpAll.fix (same_fix s1) _ _ hD) ex
      have hi : i < es.length := by rw [← hvl]; exact (List.getElem?_eq_some_iff.mp ex).1
      rw [List.getElem?_map, List.getElem?_eq_getElem hi] at ed
      obtain rfl := Option.some.inj ed
      obtain ⟨t, p, q2, rfl, ht, hp2, hq2⟩ := dp_ent dx
      obtain ⟨l1, l2, l3⟩ := he es[i] (List.getElem_mem hi)
      refine ⟨_, rfl, t, _, rfl, ht, _, rfl, iteF ?_⟩
      refine ⟨_, rfl, t, _, rfl, .inr ht, rfl, _, rfl, ifF (by rfl) ?_⟩
      refine ⟨_, rfl, t, _, 0, _, rfl, rfl, ht, atI_nat (j := 0) rfl, _, rfl, p, es[i].mute, es[i].line, m, rfl, hp2, ⟨l1, l2⟩, fun H2 s2 => ⟨_, rfl, iteF ?_⟩⟩
      have ht2 := (same_fix s2).seqT ht
      have hp3 := (same_fix s2).seqT hp2
      have hq3 := (same_fix s2).seqT hq2
      refine ⟨_, rfl, t, _, 0, _, rfl, rfl, ht2, atI_nat (j := 0) rfl, p, _, 0, _, rfl, rfl, hp3, atI_nat (j := 0) rfl, ?_⟩
      refine ⟨_, rfl, t, _, 0, _, rfl, rfl, ht2, atI_nat (j := 0) rfl, p, _, 1, _, rfl, rfl, hp3, atI_nat (j := 1) rfl, ?_⟩
      refine ⟨_, rfl, _, rfl, t, _, 1, _, rfl, rfl, ht2, atI_nat (j := 1) rfl, q2, es[i].mute, es[i].line, m, es[i].deed, rfl, hq3, l3, fun H3 s3 => ⟨_, rfl, iteF ?_⟩⟩
      exact ⟨(s1.trans s2).trans s3, _, rfl⟩
    · rintro σ' H1 ⟨s1, y, rfl⟩
      refine ⟨_, rfl, _, rfl, 1, rfl, tail_of ((same_fix s1).seqT hS) fun b H2 s2 hb => ?_⟩
      refine ⟨a, b, vs, vs.drop 1, rfl, .inr ⟨(same_fix (s1.trans s2)).seqT hS, hb, fun D2 nD2 => ?_⟩⟩
      refine lc_vals (G := fun H => SqT K H a vs ∧ SqT K H b (vs.drop 1)) (n := vs.length - 1) (walk_zipT (by rw [List.length_drop]; omega)) (fun _ => V.bl true) nD2 (by omega) (fun H3 s3 => ⟨(same_fix ((s1.trans s2).trans s3)).seqT hS, (same_fix s3).seqT hb⟩) ?_ ?_
      · intro i x H3 H4 hi s3 y Qe Qf q3
        obtain ⟨t, u, v, rfl, nt, rfl, e1, e2⟩ := y
        have h1 : i < es.length := by omega
        have h2 : i + 1 < es.length := by omega
        have e1 : vs[i]? = some u := e1
        have e2 : vs[i + 1]? = some v := by
          have e2 : (vs.drop 1)[i]? = some v := e2
          rw [List.getElem?_drop, Nat.add_comm 1 i] at e2
          exact e2
        have s4 : Same H3 (upd H3 t (.tup [u, v])) := same_new nt
        have D4 := DpAll.fix (same_fix ((((s1.trans s2).trans s3)).trans s4)) _ _ hD
        obtain ⟨d1, ed1, dx1⟩ := dpAll_at D4 e1
        obtain ⟨d2, ed2, dx2⟩ := dpAll_at D4 e2
        rw [List.getElem?_map, List.getElem?_eq_getElem h1] at ed1
        rw [List.getElem?_map, List.getElem?_eq_getElem h2] at ed2
        obtain rfl := Option.some.inj ed1
        obtain rfl := Option.some.inj ed2
        obtain ⟨t1, p1, q1, rfl, ht1, hp1, hq1⟩ := dp_ent dx1
        obtain ⟨t2, p2, q2, rfl, ht2, hp2, hq2⟩ := dp_ent dx2
        have lt := List.pairwise_iff_getElem.mp hp i (i + 1) h1 h2 (by omega)
        refine ⟨t, _, rfl, .of upd_same, rfl, _, _, rfl, _, _, rfl, ⟨rfl, rfl, ?_⟩⟩
        refine ⟨_, rfl, t1, _, 0, _, rfl, rfl, ht1, atI_nat (j := 0) rfl, _, rfl, t2, _, 0, _, rfl, rfl, ht2, atI_nat (j := 0) rfl, ?_⟩
        refine ⟨partD es[i].mute es[i].line, partD es[i + 1].mute es[i + 1].line, ws_dp (ws := [.s _, .i _]) hp1, ws_dp (ws := [.s _, .i _]) hp2, alike_part _ _ _ _, (fun z => by cases z), Nat.le_trans dep_ws (by decide), ?_⟩
        rw [part_lt lt]
        exact q3 _ s4
      · intro H3 s3 e3
        refine ⟨D2, _, rfl, .of (trues e3), ?_⟩
        rw [all_trues]
        exact q _ ((s1.trans s2).trans s3)
end
end K33
/-! need_show. -/
namespace K33
open PySem PySem.Spec PyProof.Rows L2
/-! ### a def whose code object is known -/
theorem Txt.calX {P : Program} {w : World} {K : PySem.W.Frag} {mg : Str → Option Value} {base : Heap} (T : Txt K mg) {x : Str} {st : Stmt} {N ps : List Str} {k : Nat} {sp : Sp} (i j : Nat) (hi : fn[i]? = some (defD x st)) (hj : fa[j]? = some (.glo x)) (S : FnScope N ps (defScope st))
    (hb : ∀ (kV doc pm : Value) (an : Option Addr) (cdv ct : Value) (us : List Value), us.length = ps.length → bindArgs (PySem.W.fnOf x x (defArgs st) (defBody st) (defScope st) .none kV doc pm an cdv ct) ⟨us, []⟩ = pure (ps.zip us))
    (len : ∀ vs H Q E, sp vs H Q E → vs.length = ps.length)
    (hbody : ∀ (f : Addr) (cdv : Value) (A : Around) (outer : List Env) (s : Shared) (H : Hp) (vs : List V) (Q : VK) (E : XK), cdv = .ref (He.cT K (x, none)).1 → Room k (A.deeper (envOfC x (defScope st) s.heap.objs.size f cdv)) → sp vs H Q E →
      ∃ t, PSs (cxOf C8.CX0 P w K mg base N x (defScope st) f cdv A outer s H E).nox (defBody st) t ∧ t { nx := fun _ H' => Q .non H', rt := Q } (L2.start N vs) H) : C8.Cal P w K mg base (k + 1) x sp [] := by
  obtain ⟨fd, F⟩ := T.says.def_ i (d := defD x st) hi
  have kp := F.kp
  have bd := F.bindsN hb
  obtain ⟨oc, od, dV, kV, doc, pm, an, cdv, ct, osl, rfl, lk, hcd, _, _⟩ := F.ex
  have hc : cdv = .ref (He.cT K (x, none)).1 := by
    have is : ∃ c, cdv = .ref c := by
      unfold PySem.W.codeIn at hcd
      cases cdv with
      | ref c => exact ⟨c, rfl⟩
      | _ => cases hcd
    obtain ⟨c, rfl⟩ := is
    exact congrArg Value.ref (He.codeOf_eq (p := (x, none)) lk rfl).symm
  refine ⟨_, _, ps, [], fn_of lk hcd S len fun A outer s H vs Q E hr hsp => ?_, T.glo x j hj, kp, bd, .nil⟩
  obtain ⟨t, h1, h2⟩ := hbody _ cdv A outer s H vs Q E hc hr hsp
  exact ⟨t, h1.nox, h2⟩
/-! ### a show in the heap -/
structure ShowAt (K : PySem.W.Frag) (H : Hp) (s : Show) (a m g h f c o : Addr) : Prop where
  top : SqT K H a [.int s.strips, .ref m, .ref g, .ref h, .ref f, .ref c, .ref o]
  mem : Dp K H (.ref m) (.tuple (s.members.map dInts))
  gng : Dp K H (.ref g) (.tuple (s.gangs.map dInts))
  hnd : SqT K H h (s.hands.map V.int)
  saf : SqT K H f (s.safes.map V.int)
  scn : Dp K H (.ref c) (.tuple (s.scenes.map scD))
  ord : SqT K H o (s.order.map V.int)
theorem dp_show {K : PySem.W.Frag} {H : Hp} {v : V} {s : Show} (d : Dp K H v s.d) : ∃ a m g h f c o, v = .ref a ∧ ShowAt K H s a m g h f c o := by
  obtain ⟨a, xs, rfl, hs, hd⟩ := dp_tup d
  cases hd with
  | cons h0 hd =>
  cases hd with
  | cons h1 hd =>
  cases hd with
  | cons h2 hd =>
  cases hd with
  | cons h3 hd =>
  cases hd with
  | cons h4 hd =>
  cases hd with
  | cons h5 hd =>
  cases hd with
  | cons h6 hd =>
  cases hd
  obtain rfl := dp_int h0
  obtain ⟨m, _, rfl, _⟩ := dp_tup h1
  obtain ⟨g, _, rfl, _⟩ := dp_tup h2
  obtain ⟨h, rfl, hh⟩ := dp_ints h3
  obtain ⟨f, rfl, hf⟩ := dp_ints h4
  obtain ⟨c, _, rfl, _⟩ := dp_tup h5
  obtain ⟨o, rfl, ho⟩ := dp_ints h6
  exact ⟨a, m, g, h, f, c, o, rfl, hs, h1, h2, hh, hf, h5, ho⟩
theorem ShowAt.dp {K : PySem.W.Frag} {H : Hp} {s : Show} {a m g h f c o : Addr} (x : ShowAt K H s a m g h f c o) : Dp K H (.ref a) s.d :=
  .tup x.top (.cons (.int _) (.cons x.mem (.cons x.gng (.cons (ints_dp x.hnd) (.cons (ints_dp x.saf) (.cons x.scn (.cons (ints_dp x.ord) .nil)))))))
theorem ShowAt.fix {K : PySem.W.Frag} {H H' : Hp} {s : Show} {a m g h f c o : Addr} (x : ShowAt K H s a m g h f c o) (k : Fix H H') : ShowAt K H' s a m g h f c o :=
  ⟨k.seqT x.top, Dp.fix k _ _ x.mem, Dp.fix k _ _ x.gng, k.seqT x.hnd, k.seqT x.saf, Dp.fix k _ _ x.scn, k.seqT x.ord⟩
theorem tup_ints {K : PySem.W.Frag} {H : Hp} {a : Addr} {L : List (List Int)} (d : Dp K H (.ref a) (.tuple (L.map dInts))) : ∃ xs, SqT K H a xs ∧ DpAll K H xs (L.map dInts) ∧ xs.length = L.length := by
  obtain ⟨b, xs, e, hs, hd⟩ := dp_tup d
  cases e
  exact ⟨xs, hs, hd, by rw [dpAll_len hd, List.length_map]⟩
def rLenK (K : PySem.W.Frag) : List V → Hp → VK → Prop := fun xs H Q => ∃ p ys, xs = [.ref p] ∧ (SqL K H p ys ∨ SqT K H p ys) ∧ Q (.int ys.length) H
theorem call_lenK {X : Cx} : CallR X (.builtin "len") (rLenK X.K) := call_len_seq
theorem nm_ne {d : Deed} (h : d ≠ .kept) : d.nm ≠ "kept" := by
  cases d with
  | kept => exact absurd rfl h
  | to x => exact n_to_kept
  | by_ x => exact n_by_kept
  | turn => exact n_turn_kept
  | as_ x => exact n_as_kept
abbrev qN : Str := ("need_show" : Str) ++ ".<locals>." ++ "<lambda>"
abbrev Ts (K : PySem.W.Frag) : List (Addr × Str) := [((He.cT K ("need_show", none)).2, qN)]
abbrev TBase (base : Heap) (K : PySem.W.Frag) (mg : Str → Option Value) : Prop := LamX.TabB base mg (He.cT K ("need_show", none)).1 (He.cT K ("need_show", none)).2
def spShow (K : PySem.W.Frag) : Sp := fun vs H Q _ => ∃ (v : V) (s : Show), vs = [v] ∧ Dp K H v s.d ∧ Valid s ∧ LamX.Tabs (Ts K) H ∧ ∀ H', LamX.ExtN H H' → LamX.Tabs (Ts K) H' → Q v H'
abbrev N_show : List Str := ["thing", "strips", "members", "gangs", "hands", "safes", "scenes", "order", "lines", "scene", "entry"]
theorem sc_need_show : FnScope N_show ["thing"] (defScope s_need_show) := ⟨rfl, rfl, rfl, by decide +kernel, rfl, by decide +kernel, by decide +kernel⟩
section
variable {P : Program} {w : World} {K : PySem.W.Frag} {mg : Str → Option Value} {base : Heap}
theorem cal_need_show (T : Txt K mg) (TB : TBase base K mg) : C8.Cal P w K mg base 7 "need_show" (spShow K) [] := by
  refine T.calX at_need_show at_need_show rfl rfl sc_need_show (fun _ _ _ _ _ _ us hl => match us, hl with | [_], _ => rfl) (fun vs H Q E h => ?_) (fun f cdv A outer s H vs Q E hcd hr h => ?_)
  · obtain ⟨v, s, rfl, _⟩ := h
    rfl
  · obtain ⟨v, S, rfl, hd, hV, hT, q⟩ := h
    subst hcd
    have hu : ∀ x ∈ Ts K, x.1 = (He.cT K ("need_show", none)).2 → x.2 = qN := fun x hx _ => by
      rw [List.mem_singleton.mp hx]
    refine ⟨_, pss_cons (ps_if (PW.pt (pw_or (pt_not (pt_val (pe_callB call_isTup (by rfl) T.m_isinstance bt_isinstance (pa_cons (pv 0) (pa_cons (pe_bltn (v := .ty "tuple") (by rfl) T.m_tuple bt_tuple rfl) pa_nil)))))
          (pw_or1 (pt_cmpR op_ne (pe_callB call_len_seq (by rfl) T.m_len bt_len (pa_cons (pv 0) pa_nil)) pe_int (nomark _))))) pss_never pss_nil)
      (pss_cons (ps_asg (pv 0) (pg_tup rfl (pgs_cons (pg_name (i := 1) sc_need_show.nd rfl (Or.inr rfl)) (pgs_cons (pg_name (i := 2) sc_need_show.nd rfl (Or.inr rfl)) (pgs_cons (pg_name (i := 3) sc_need_show.nd rfl (Or.inr rfl)) (pgs_cons (pg_name (i := 4) sc_need_show.nd rfl (Or.inr rfl))
          (pgs_cons (pg_name (i := 5) sc_need_show.nd rfl (Or.inr rfl)) (pgs_cons (pg_name (i := 6) sc_need_show.nd rfl (Or.inr rfl)) (pgs_cons (pg_name (i := 7) sc_need_show.nd rfl (Or.inr rfl)) pgs_nil)))))))))
      (pss_cons (ps_if (pt_not (pt_val (C8.pe_c (cal_is_whole T) hr (by decide) (by rfl) (pa_cons (pv 1) (pa_cons pe_int (pa_cons (C8.pe_gc (by rfl) T.MOST_STRIPS) pa_nil)))))) pss_never pss_nil)
      (pss_cons (ps_expr (pe_needList (tb := tCall (spRising K) [] C8.E0 (tCons (tOp (rIxT K) (tVar 2) (tVar 11)) (tCons (tVar 1) tNil))) (k := 3) (Ts := Ts K) T (by rfl) TB rfl (List.mem_singleton.mpr rfl) hu hr (lamP_by (sc := defScope s_need_show) (N := N_show) (y := "number") (by decide +kernel)) rfl (fun _ _ _ _ _ _ => rfl) pe_str (pv 2) (C8.pe_gc (by rfl) T.MOST_GROUPS)
          (fun A outer s2 H2 f c' hr2 => C8.pe_c (cal_is_rising T) hr2 (by decide) (by rfl) (pa_cons (pe_ix ix_tup (pv 2) (pv 11) (fun _ _ => rfl)) (pa_cons (pv 1) pa_nil)))))
      (pss_cons (ps_set (i := 8) sc_need_show.nd rfl (Or.inr rfl) (pe_op op_add (pv 1) (pe_callB call_len_seq (by rfl) T.m_len bt_len (pa_cons (pv 2) pa_nil))))
      (pss_cons (ps_expr (pe_needList (tb := tCall (spGang K) [] C8.E0 (tCons (tVar 3) (tCons (tVar 11) (tCons (tVar 8) tNil)))) (k := 3) (Ts := Ts K) T (by rfl) TB rfl (List.mem_singleton.mpr rfl) hu hr (lamP_by (sc := defScope s_need_show) (N := N_show) (y := "number") (by decide +kernel)) rfl (fun _ _ _ _ _ _ => rfl) pe_str (pv 3) (C8.pe_gc (by rfl) T.MOST_GANGS)
          (fun A outer s2 H2 f c' hr2 => C8.pe_c (cal_is_gang T) hr2 (by decide) (by rfl) (pa_cons (pv 3) (pa_cons (pv 11) (pa_cons (pv 8) pa_nil))))))
      (pss_cons (ps_expr (pe_needList (tb := tCall (spNext K) [] C8.E0 (tCons (tVar 4) (tCons (tVar 11) (tCons (tVar 8) tNil)))) (k := 3) (Ts := Ts K) T (by rfl) TB rfl (List.mem_singleton.mpr rfl) hu hr (lamP_by (sc := defScope s_need_show) (N := N_show) (y := "number") (by decide +kernel)) rfl (fun _ _ _ _ _ _ => rfl) pe_str (pv 4) (C8.pe_gc (by rfl) T.MOST_LINES)
          (fun A outer s2 H2 f c' hr2 => C8.pe_c (cal_is_next T) hr2 (by decide) (by rfl) (pa_cons (pv 4) (pa_cons (pv 11) (pa_cons (pv 8) pa_nil))))))
      (pss_cons (ps_expr (pe_needList (tb := tCall (spNext K) [] C8.E0 (tCons (tVar 5) (tCons (tVar 11) (tCons (tVar 8) tNil)))) (k := 3) (Ts := Ts K) T (by rfl) TB rfl (List.mem_singleton.mpr rfl) hu hr (lamP_by (sc := defScope s_need_show) (N := N_show) (y := "number") (by decide +kernel)) rfl (fun _ _ _ _ _ _ => rfl) pe_str (pv 5) (C8.pe_gc (by rfl) T.MOST_SAFES)
          (fun A outer s2 H2 f c' hr2 => C8.pe_c (cal_is_next T) hr2 (by decide) (by rfl) (pa_cons (pv 5) (pa_cons (pv 11) (pa_cons (pv 8) pa_nil))))))
      (pss_cons (ps_expr (pe_needList (tb := tCall (spScene K) [] C8.E0 (tCons (tOp (rIxT K) (tVar 6) (tVar 11)) (tCons (tVar 8) tNil))) (k := 3) (Ts := Ts K) T (by rfl) TB rfl (List.mem_singleton.mpr rfl) hu hr (lamP_by (sc := defScope s_need_show) (N := N_show) (y := "number") (by decide +kernel)) rfl (fun _ _ _ _ _ _ => rfl) pe_str (pv 6) (C8.pe_gc (by rfl) T.MOST_SCENES)
          (fun A outer s2 H2 f c' hr2 => C8.pe_c (cal_is_scene T) hr2 (by decide) (by rfl) (pa_cons (pe_ix ix_tup (pv 6) (pv 11) (fun _ _ => rfl)) (pa_cons (pv 8) pa_nil)))))
      (pss_cons (ps_expr (pe_needList (tb := tCall spWhole [] C8.E0 (tCons (tOp (rIxT K) (tVar 7) (tVar 11)) (tCons (tC (.int 0)) (tCons (tOp (rI0 fun i j => .int (i - j)) (tCB (rLenK K) (tCons (tVar 6) tNil)) (tC (.int 1))) tNil)))) (k := 3) (Ts := Ts K) T (by rfl) TB rfl (List.mem_singleton.mpr rfl) hu hr (lamP_by (sc := defScope s_need_show) (N := N_show) (y := "number") (by decide +kernel)) rfl (fun _ _ _ _ _ _ => rfl) pe_str (pv 7) (C8.pe_gc (by rfl) T.MOST_LIST)
          (fun A outer s2 H2 f c' hr2 => C8.pe_c (cal_is_whole T) hr2 (by decide) (by rfl) (pa_cons (pe_ix ix_tup (pv 7) (pv 11) (fun _ _ => rfl)) (pa_cons pe_int (pa_cons (pe_op op_sub (pe_callB (r := rLenK K) call_lenK (by rfl) T.m_len bt_len (pa_cons (pv 6) pa_nil)) pe_int) pa_nil))))))
      (pss_cons (ps_if (pt_cmpR op_gt (pe_callB call_len_seq (by rfl) T.m_len bt_len (pa_cons (pe_lc2 (own := [("scene", 9), ("entry", 10)]) (vs1 := [10]) (g := gName 9) (tt := tYes) (g1 := gName 10) (wi1 := iTup K (tVar 9)) (te := tVar 10)
          (tt1 := tTest (tOp rEq (tOp (rIxT K) (tOp (rIxT K) (tVar 10) (tC (.int 1))) (tC (.int 0))) (tC (.str "kept")))) rfl sc_need_show.nd (pi_tup (pv 6)) (blkOk_by (N := N_show) (sc := defScope s_need_show) (by decide +kernel)) (by decide)
          (fun _ _ _ _ _ => pg_name (i := 9) sc_need_show.nd rfl (.inl rfl)) (fun _ _ _ _ _ => pts_nil) (fun _ _ _ _ _ => pi_tup (pv 9)) (fun _ _ _ _ _ => pg_name (i := 10) sc_need_show.nd rfl (.inl rfl))
          (fun _ _ _ _ _ => pts_one (pt_cmpR op_eq (pe_ix ix_tup (pe_ix ix_tup (pv 10) pe_int (fun _ _ => rfl)) pe_int (fun _ _ => rfl)) (C8.pe_gc (by rfl) T.KEPT) (nomark _))) (fun _ _ _ _ _ => pv 10)) pa_nil)) (C8.pe_gc (by rfl) T.MOST_KEPT) (nomark _)) pss_never pss_nil)
      (pss_one (ps_ret (pv 0))))))))))))), ?_⟩
    obtain ⟨a, m, g, hh, sf, c, o, rfl, hA⟩ := dp_show hd
    have hst := hV.st
    have hml := hV.ml
    have hln : S.lines = S.strips + S.members.length := rfl
    refine ⟨_, rfl, a, _, rfl, hA.top, _, rfl, iteF ?_⟩
    refine ⟨_, rfl, a, _, rfl, .inr hA.top, rfl, _, rfl, ifF (by rfl) ?_⟩
    refine ⟨_, rfl, a, _, rfl, hA.top, rfl, _, _, rfl, _, _, rfl, _, _, rfl, _, _, rfl, _, _, rfl, _, _, rfl, _, _, rfl, rfl, ?_⟩
    refine ⟨_, rfl, S.strips, 1, 6, rfl, _, rfl, ?_⟩
    rw [decide_eq_true hst.1, decide_eq_true hst.2]
    refine iteF ?_
    -- members
    obtain ⟨ms, hms, dms, lms⟩ := tup_ints hA.mem
    refine ⟨_, rfl, m, ms, 3, rfl, rfl, hms, by omega, by omega, hT, fun H1 x1 T1 => ⟨fun i H5 Qb hi s5 qb => ?_, fun H2 s2 => ?_⟩⟩
    · have f5 := (extN_fix x1).trans (same_fix s5)
      obtain ⟨v5, e5, d5⟩ := dpAll_get (DpAll.fix f5 _ _ dms) (show (S.members.map dInts)[i]? = some (dInts S.members[i]) by rw [List.getElem?_map, List.getElem?_eq_getElem (by omega)]; rfl)
      obtain ⟨a5, rfl, h5⟩ := dp_ints d5
      have r5 := hV.mr S.members[i] (List.getElem_mem _)
      have l5 := r5.len (by omega)
      exact ⟨_, rfl, _, rfl, m, _, _, _, rfl, rfl, f5.seqT hms, atI_nat e5, _, rfl, a5, S.members[i], S.strips, rfl, h5, r5, by omega, qb⟩
    have x2 := x1.trans (same_extN s2)
    have T2 := T1.ext s2
    have A2 := hA.fix (extN_fix x2)
    refine ⟨_, rfl, _, rfl, m, ms, rfl, .inr ((extN_fix x2).seqT hms), _, _, rfl, rfl, ?_⟩
    rw [lms]
    -- gangs
    have hlin : S.lines ≤ 9 := by omega
    obtain ⟨gs, hgs, dgs, lgs⟩ := tup_ints A2.gng
    refine ⟨_, rfl, g, gs, 4, rfl, rfl, hgs, by have := hV.gl; omega, by have := hV.gl; omega, T2, fun H3 x3 T3 => ⟨fun i H5 Qb hi s5 qb => ?_, fun H4 s4 => ?_⟩⟩
    · have f5 := (extN_fix x3).trans (same_fix s5)
      have hi2 : i < S.gangs.length := by omega
      exact ⟨_, rfl, _, rfl, _, rfl, g, gs, S.gangs, i, S.gangs[i], S.lines, rfl, f5.seqT hgs, DpAll.fix f5 _ _ dgs, hV.gl, by omega, List.getElem?_eq_getElem hi2, hV.gr, hV.gp, qb⟩
    have x4 := (x2.trans x3).trans (same_extN s4)
    have T4 := T3.ext s4
    have A4 := hA.fix (extN_fix x4)
    -- hands
    refine ⟨_, rfl, hh, _, 9, rfl, rfl, A4.hnd, by rw [List.length_map]; have := hV.hl; omega, by rw [List.length_map]; have := hV.hl; omega, T4, fun H5 x5 T5 => ⟨fun i H6 Qb hi s6 qb => ?_, fun H6 s6 => ?_⟩⟩
    · rw [List.length_map] at hi
      exact ⟨_, rfl, _, rfl, _, rfl, hh, S.hands, i, S.lines, rfl, ((extN_fix x5).trans (same_fix s6)).seqT A4.hnd, hV.hr, hi, qb _ fun _ _ z => z⟩
    have x6 := (x4.trans x5).trans (same_extN s6)
    have T6 := T5.ext s6
    have A6 := hA.fix (extN_fix x6)
    -- safes
    refine ⟨_, rfl, sf, _, 3, rfl, rfl, A6.saf, by rw [List.length_map]; have := hV.sl; omega, by rw [List.length_map]; have := hV.sl; omega, T6, fun H7 x7 T7 => ⟨fun i H8 Qb hi s8 qb => ?_, fun H8 s8 => ?_⟩⟩
    · rw [List.length_map] at hi
      exact ⟨_, rfl, _, rfl, _, rfl, sf, S.safes, i, S.lines, rfl, ((extN_fix x7).trans (same_fix s8)).seqT A6.saf, hV.sr, hi, qb _ fun _ _ z => z⟩
    have x8 := (x6.trans x7).trans (same_extN s8)
    have T8 := T7.ext s8
    have A8 := hA.fix (extN_fix x8)
    -- scenes
    obtain ⟨_, cs, ec, hcs, dcs⟩ := dp_tup A8.scn
    cases ec
    have lcs : cs.length = S.scenes.length := by rw [dpAll_len dcs, List.length_map]
    refine ⟨_, rfl, c, cs, 6, rfl, rfl, hcs, by have := hV.cl; omega, by have := hV.cl; omega, T8, fun H9 x9 T9 => ⟨fun i H5 Qb hi s5 qb => ?_, fun H10 s10 => ?_⟩⟩
    · have f5 := (extN_fix x9).trans (same_fix s5)
      obtain ⟨v5, e5, d5⟩ := dpAll_get (DpAll.fix f5 _ _ dcs) (show (S.scenes.map scD)[i]? = some (scD S.scenes[i]) by rw [List.getElem?_map, List.getElem?_eq_getElem (by omega)]; rfl)
      exact ⟨_, rfl, _, rfl, c, _, _, _, rfl, rfl, f5.seqT hcs, atI_nat e5, _, rfl, v5, S.scenes[i], S.lines, rfl, d5, hV.cr S.scenes[i] (List.getElem_mem _), qb⟩
    have x10 := (x8.trans x9).trans (same_extN s10)
    have T10 := T9.ext s10
    have A10 := hA.fix (extN_fix x10)
    have f10 := (extN_fix x9).trans (same_fix s10)
    have hcs10 := f10.seqT hcs
    have dcs10 := DpAll.fix f10 _ _ dcs
    -- the list
    refine ⟨_, rfl, o, _, 8, rfl, rfl, A10.ord, by rw [List.length_map]; have := hV.ol; omega, by rw [List.length_map]; have := hV.ol; omega, T10, fun H11 x11 T11 => ⟨fun i H5 Qb hi s5 qb => ?_, fun H12 s12 => ?_⟩⟩
    · rw [List.length_map] at hi
      have f5 := (extN_fix x11).trans (same_fix s5)
      have gi : (S.order.map V.int)[i]? = some (.int S.order[i]) := by
        rw [List.getElem?_map, List.getElem?_eq_getElem hi]
        rfl
      have b5 := hV.orr S.order[i] (List.getElem_mem hi)
      refine ⟨_, rfl, _, rfl, o, _, _, _, rfl, rfl, f5.seqT A10.ord, atI_nat gi, _, rfl, c, cs, rfl, .inr (f5.seqT hcs10), _, 1, rfl, rfl, S.order[i], 0, _, rfl, ?_⟩
      rw [decide_eq_true b5.1, decide_eq_true (show S.order[i] ≤ (cs.length : Int) - 1 by omega)]
      exact qb _ fun _ _ z => z
    have x12 := (x10.trans x11).trans (same_extN s12)
    have T12 := T11.ext s12
    have f12 := (extN_fix x11).trans (same_fix s12)
    have hcs12 := f12.seqT hcs10
    have dcs12 := DpAll.fix f12 _ _ dcs10
    -- how many are kept
    refine ⟨_, rfl, c, rfl, ⟨_, hcs12⟩, fun D nD => ?_⟩
    refine lc2_it (G := fun H => SqT K H c cs) (n := cs.length) walk_tup (fun k H => Same H12 H ∧ ∃ acc, H D = some (.lst acc) ∧ acc.length = ((S.scenes.take k).flatten.filter isKept).length ∧ acc.length ≤ 12 * k) ⟨same_new nD, [], upd_same, rfl, Nat.le_refl _⟩ (fun k H _ p => (same_fix p.1).seqT hcs12) ?_ ?_
    · rintro k x H13 H14 hk ⟨s13, acc, eD, el, bd⟩ ⟨rfl, ex⟩
      obtain ⟨dd, ed, dx⟩ := dpAll_at dcs12 ex
      have hk2 : k < S.scenes.length := by omega
      rw [List.getElem?_map, List.getElem?_eq_getElem hk2] at ed
      obtain rfl := Option.some.inj ed
      obtain ⟨sa, es, rfl, hes, des⟩ := dp_tup dx
      have les : es.length = S.scenes[k].length := by rw [dpAll_len des, List.length_map]
      have l12 := (hV.cr S.scenes[k] (List.getElem_mem _)).1
      refine ⟨rfl, ⟨_, rfl, sa, rfl, ⟨_, (same_fix s13).seqT hes⟩, ?_⟩⟩
      refine lc2_in (G := fun H => SqT K H sa es) (n := es.length) walk_tup (fun j H => Same H12 H ∧ ∃ acc, H D = some (.lst acc) ∧ acc.length = ((S.scenes.take k).flatten.filter isKept).length + ((S.scenes[k].take j).filter isKept).length ∧ acc.length ≤ 12 * k + j) ?_ (fun j H _ p => (same_fix p.1).seqT hes) ?_ ?_
      · refine ⟨s13, acc, eD, ?_, by omega⟩
        rw [el]
        rfl
      · rintro j x H15 H16 hj ⟨s15, acc5, eD5, el5, bd5⟩ ⟨rfl, ex5⟩
        obtain ⟨dd, ed5, dx5⟩ := dpAll_at (DpAll.fix (same_fix s15) _ _ des) ex5
        have hj2 : j < S.scenes[k].length := by omega
        rw [List.getElem?_map, List.getElem?_eq_getElem hj2] at ed5
        obtain rfl := Option.some.inj ed5
        obtain ⟨t, p, q2, rfl, ht, hp, hq⟩ := dp_ent dx5
        rw [deed_vs] at hq
        have tk : ((S.scenes[k].take (j + 1)).filter isKept) = ((S.scenes[k].take j).filter isKept) ++ [S.scenes[k][j]].filter isKept := by
          rw [List.take_succ_eq_append_getElem hj2, List.filter_append]
        refine ⟨rfl, ⟨_, rfl, t, _, 1, _, rfl, rfl, ht, atI_nat (j := 1) rfl, q2, _, 0, _, rfl, rfl, hq, atI_nat (j := 0) rfl, rfl, _, rfl, ?_⟩⟩
        by_cases hk5 : S.scenes[k][j].deed = .kept
        · have one : [S.scenes[k][j]].filter isKept = [S.scenes[k][j]] := List.filter_cons_of_pos (decide_eq_true hk5)
          refine ifT (by rw [hk5]; exact eqS _) ?_
          refine ⟨_, rfl, acc5, eD5, ?_, ?_⟩
          · have := size5
            have := hV.cl
            omega
          · refine ⟨same_at nD s15, _, upd_same, ?_, ?_⟩
            · rw [tk, one, List.length_append, List.length_append, el5, List.length_singleton, List.length_singleton]
              omega
            · rw [List.length_append, List.length_singleton]
              omega
        · have none : [S.scenes[k][j]].filter isKept = [] := List.filter_cons_of_neg (by rw [isKept, decide_eq_false hk5]; decide)
          refine ifF (neS (nm_ne hk5)) ?_
          refine ⟨s15, acc5, eD5, ?_, by omega⟩
          rw [tk, none, List.append_nil]
          exact el5
      · rintro H15 ⟨s15, acc5, eD5, el5, bd5⟩
        refine ⟨s15, acc5, eD5, ?_, by omega⟩
        rw [el5, List.take_succ_eq_append_getElem hk2, List.flatten_append, List.filter_append, List.length_append, les, List.take_length]
        rw [List.flatten_cons, List.flatten_nil, List.append_nil]
    · rintro H13 ⟨s13, acc, eD, el, _⟩
      refine ⟨D, acc, rfl, .inl (.of eD), _, 12, rfl, rfl, _, rfl, ?_⟩
      have hk : acc.length ≤ 12 := by
        rw [el, lcs, List.take_length]
        exact hV.kp
      refine ifF (decide_eq_false (by omega)) ?_
      exact ⟨_, rfl, q H13 (x12.trans (same_extN s13)) (T12.ext s13)⟩
end
end K33
/-! integer_in, integer_text, words_text. -/
namespace K33
open PySem PySem.Spec PyProof.Rows L2
/-! ### plain facts of numbers' texts -/
theorem numL_head {k : Nat} {r : List Nat} (h : TL.numL k = 48 :: r) : k = 0 := by
  induction k using Nat.strongRecOn generalizing r with
  | _ k ih =>
    by_cases hk : k < 10
    · rw [TL.numL_lt hk] at h
      have := (List.cons.inj h).1
      omega
    · rw [TL.numL_step (by omega)] at h
      cases hc : TL.numL (k / 10) with
      | nil => exact absurd hc (TL.numL_ne _)
      | cons x y =>
        rw [hc, List.cons_append] at h
        have e := (List.cons.inj h).1
        rw [e] at hc
        have := ih (k / 10) (by omega) hc
        omega
theorem at_digit {c : Nat} (h1 : 48 ≤ c) (h2 : c ≤ 57) : Builtin.Str.occurrences "0123456789" ⟨#[c]⟩ 0 ("0123456789" : Str).length 1 = [c - 48] := by
  have key : ∀ d : Fin 10, Builtin.Str.occurrences "0123456789" ⟨#[48 + d.val]⟩ 0 ("0123456789" : Str).length 1 = [d.val] := by decide +kernel
  have e := key ⟨c - 48, by omega⟩
  rw [show 48 + (c - 48) = c by omega] at e
  exact e
theorem in_digits {c : Nat} (h1 : 48 ≤ c) (h2 : c ≤ 57) : decide (c ∈ ("0123456789" : Str).cps.toList) = true := by
  have key : ∀ d : Fin 10, decide ((48 + d.val) ∈ ("0123456789" : Str).cps.toList) = true := by decide +kernel
  have e := key ⟨c - 48, by omega⟩
  rw [show 48 + (c - 48) = c by omega] at e
  exact e
theorem digit_at {d : Nat} (h : d < 10) : atI ("0123456789" : Str).cps.toList (d : Int) = some (48 + d) := by
  have key : ∀ d : Fin 10, ("0123456789" : Str).cps.toList[d.val]? = some (48 + d.val) := by decide +kernel
  exact atI_nat (key ⟨d, h⟩)
theorem s_minus : ("-" : Str) = SX.S [45] := by decide +kernel
theorem s_zero : ("0" : Str) = SX.S [48] := by decide +kernel
theorem s_size (l : List Nat) : (SX.S l).cps.size = l.length := by simp
theorem size1 : (1 : Nat) ≤ sizeLine := by decide
theorem sizeBig : (16777216 : Nat) ≤ sizeLine := by decide
theorem numL_len7 {k : Nat} (h : k ≤ 1000000) : (TL.numL k).length ≤ 7 := TL.numL_len (k := 7) (by decide) (Nat.lt_of_le_of_lt h (by decide))
theorem val_le {k : Nat} (h : k ≤ 1000000) : True := trivial
theorem andC {c : Bool} {A B : Prop} (h : c = true → A) (k : c = false → B) : if c = true then A else B := by
  cases c
  · exact iteF (k rfl)
  · exact iteT (h rfl)
def spIntIn (K : PySem.W.Frag) : Sp := fun vs H Q _ => ∃ n : Int, vs = [.str (intS n), .int 7] ∧ n.natAbs ≤ 1000000 ∧ ∀ p H', Same H H' → H p = none → H' p = some (.lst [.int n]) → Q (.ref p) H'
def spIntText : Sp := fun vs H Q _ => ∃ n : Int, vs = [.int n] ∧ n.natAbs ≤ 1000000000 ∧ ∀ H', Same H H' → Q (.str (intS n)) H'
abbrev N_intin : List Str := ["word", "most", "plain", "sign", "value"]
abbrev N_inttext : List Str := ["number", "size", "found"]
theorem sc_integer_in : FnScope N_intin ["word", "most"] (defScope s_integer_in) := ⟨rfl, rfl, rfl, by decide +kernel, rfl, by decide +kernel, by decide +kernel⟩
theorem sc_integer_text : FnScope N_inttext ["number"] (defScope s_integer_text) := ⟨rfl, rfl, rfl, by decide +kernel, rfl, by decide +kernel, by decide +kernel⟩
section
variable {P : Program} {w : World} {K : PySem.W.Frag} {mg : Str → Option Value} {base : Heap}
theorem cal_integer_in (T : Txt K mg) : C8.Cal P w K mg base 1 "integer_in" (spIntIn K) [] := by
  refine T.cal at_integer_in at_integer_in rfl rfl sc_integer_in (fun _ _ _ _ _ _ us hl => match us, hl with | [_, _], _ => rfl) (fun vs H Q E h => ?_) (fun f cdv A outer s H vs Q E hr h => ?_)
  · obtain ⟨n, rfl, _⟩ := h
    rfl
  · obtain ⟨n, rfl, hn, q⟩ := h
    refine ⟨_, pss_cons (ps_set (i := 2) sc_integer_in.nd rfl (Or.inl rfl) (pe_ifExp (pt_cmpR op_eq (pe_slice C8.sl_txt (pv 0) po_none (po_some pe_int)) pe_str (nomark _)) (pe_slice C8.sl_txt (pv 0) (po_some pe_int) po_none) (pv 0)))
      (pss_cons (ps_if (PW.pt (pw_or (pt_not (pt_chain op_le op_le pe_int (pe_callB call_len (by rfl) T.m_len bt_len (pa_cons (pv 2) pa_nil)) (pv 1)))
        (pw_or1 (pt_not (pt_val (pe_callB (cr_all rfl) (by rfl) T.m_all bt_all (pa_cons (pe_lc (own := [("sign", 3)]) (g := gName 3) (tt := tYes) rfl sc_integer_in.nd (pi_str (pv 2)) (blkOk_by (N := N_intin) (sc := defScope s_integer_in) (by decide +kernel))
          (fun _ _ _ _ _ => pg_name (i := 3) sc_integer_in.nd rfl (.inl rfl)) (fun _ _ _ _ _ => pts_nil) (fun _ _ _ _ _ => pe_cmpR op_in_sign (pv 3) (C8.pe_gc (by rfl) T.DIGITS) (by rfl))) pa_nil))))))) pss_never pss_nil)
      (pss_cons (ps_if (PW.pt (pw_and (pt_cmpR op_eq (pe_ix ix_str (pv 2) pe_int (fun _ _ => rfl)) pe_str (nomark _)) (pw_and1 (pt_cmpR op_ne (pv 0) pe_str (nomark _))))) pss_never pss_nil)
      (pss_cons (ps_set (i := 4) sc_integer_in.nd rfl (Or.inl rfl) pe_int)
      (pss_cons (ps_for PassesOwn.never rfl (pi_str (pv 2)) (pg_name (i := 3) sc_integer_in.nd rfl (.inl rfl)) (pss_one (ps_set (i := 4) sc_integer_in.nd rfl (Or.inl rfl) (pe_op op_add (pe_op op_mul pe_int (pv 4)) (pe_m1 PySem.F.slot_str_index PySem.F.type_str_index mt_sindex (C8.pe_gc (by rfl) T.DIGITS) (pv 3))))))
      (pss_one (ps_ret (pe_lst (pa_cons (pe_ifExp (pt_cmpR op_eq (pv 2) (pv 0) (nomark _)) (pv 4) (pe_un un_neg (pv 4))) pa_nil)))))))), ?_⟩
    generalize hk : n.natAbs = k at hn
    have hd := TL.numL_digits k
    have h7 := numL_len7 hn
    have hne := TL.numL_ne k
    have sb := sizeBig
    have lenw : (intS n).length ≤ sizeLine := by
      have l8 : (intS n).length ≤ 8 := by
        unfold intS intL
        rw [hk, SX.S_len]
        split
        · rw [List.length_cons]
          omega
        · omega
      omega
    have same : decide (V.str (SX.S (TL.numL k)) = V.str (intS n)) = decide (0 ≤ n) := by
      unfold intS intL
      rw [hk]
      by_cases hneg : n < 0
      · rw [if_pos hneg, decide_eq_false (by omega : ¬ 0 ≤ n)]
        refine decide_eq_false fun e => ?_
        have e := SX.S_inj (V.str.inj e)
        have := hd 45 (by rw [e]; exact List.mem_cons_self)
        omega
      · rw [if_neg hneg, decide_eq_true (by omega : 0 ≤ n)]
        exact decide_eq_true rfl
    by_cases hneg : n < 0
    have e : intS n = SX.S (45 :: TL.numL k) := by
      unfold intS intL
      rw [if_pos hneg, hk]
    refine ⟨_, rfl, 1, rfl, _, rfl, lenw, rfl, _, rfl, ifT (by rw [e, SX.slice_to (by decide), s_minus]; exact decide_eq_true rfl) ⟨_, rfl, 1, rfl, _, rfl, lenw, ?_⟩⟩
    have e2 : Txt.slice (intS n) (some 1) none = SX.S (TL.numL k) := by
      rw [e, SX.slice_from (by decide)]
      rfl
    rw [e2]
    rotate_left 1
    have e : intS n = SX.S (TL.numL k) := by
      unfold intS intL
      rw [if_neg hneg, hk]
    refine ⟨_, rfl, 1, rfl, _, rfl, lenw, rfl, _, rfl, ifF (by
      rw [e, SX.slice_to (by decide), s_minus]
      refine decide_eq_false fun z => ?_
      have z := SX.S_inj (V.str.inj z)
      have := hd 45 (List.mem_of_mem_take (i := (1 : Int).toNat) (by rw [z]; exact List.mem_cons_self))
      omega) ⟨V.str (SX.S (TL.numL k)), ?_, ?_⟩⟩
    · show some (some (V.str (intS n))) = _
      rw [e]
    rotate_left 1
    all_goals
      obtain ⟨c0, r0, hc0⟩ : ∃ c r, TL.numL k = c :: r := by
        cases hc : TL.numL k with
        | nil => exact absurd hc hne
        | cons c r => exact ⟨c, r, rfl⟩
      refine ⟨_, rfl, _, (TL.numL k).length, rfl, ⟨by rw [SX.S_len]; omega, (SX.S_len _).symm⟩, 1, _, rfl, rfl, _, rfl, ifT (decide_eq_true (by rw [hc0, List.length_cons]; omega)) ⟨_, rfl, _, _, rfl, rfl, _, rfl, ?_⟩⟩
      rw [decide_eq_true (show ((TL.numL k).length : Int) ≤ 7 by omega)]
      refine iteF ?_
      refine ⟨_, rfl, _, rfl, fun D nD => ?_⟩
      refine lc_vals (G := fun _ => True) (n := (SX.S (TL.numL k)).cps.size) walk_str (fun _ => V.bl true) nD (by rw [s_size]; omega) (fun _ _ => trivial) ?_ ?_
      · rintro i x H1 H2 hi s1 ⟨rfl, c, ec, rfl⟩ Qe Qf qe
        have ec : (TL.numL k)[i]? = some c := by
          rw [← Array.getElem?_toList] at ec
          exact ec
        have hc := hd c (List.mem_of_getElem? ec)
        exact ⟨rfl, ⟨_, rfl, c, _, rfl, rfl, qB (in_digits hc.1 hc.2) (qe _ fun _ _ z => z)⟩⟩
      · intro H1 s1 e1
        refine ⟨D, _, rfl, .of (trues e1), _, rfl, ?_⟩
        rw [all_trues]
        refine iteF ?_
        refine ⟨_, rfl, SX.S (TL.numL k), 0, c0, rfl, rfl, by rw [SX.S_len]; omega, atI_nat (j := 0) (by show (TL.numL k)[0]? = some c0; rw [hc0]; rfl), rfl, _, rfl, ?_⟩
        refine andC (fun hz => ?_) (fun hz => ?_)
        have h48 : c0 = 48 := by
          have z := V.str.inj (of_decide_eq_true hz)
          rw [s_zero] at z
          exact (List.cons.inj (SX.S_inj (a := [c0]) z)).1
        rw [h48] at hc0
        have hk0 := numL_head hc0
        have hn0 : n = 0 := by omega
        refine ⟨_, rfl, rfl, _, rfl, ifF (by rw [hn0, show intS 0 = "0" by decide +kernel, eqS]; rfl) ?_⟩
        rotate_left 1
        refine iteF ?_
        rotate_left 1
        all_goals
          refine ⟨_, rfl, _, rfl, ?_⟩
          refine for_it (G := fun _ => True) (n := (SX.S (TL.numL k)).cps.size) walk_str (fun i σ' H' => H' = H1 ∧ ∃ x, σ' = [some (.str (intS n)), some (.int 7), some (.str (SX.S (TL.numL k))), x, some (.int (NumText.digitsVal ((TL.numL k).take i) : Nat))]) ⟨rfl, _, rfl⟩ (fun _ _ _ _ _ => trivial) ?_ ?_
          · rintro i x σ' H2 H3 hi ⟨rfl, y, rfl⟩ ⟨rfl, c, ec, rfl⟩
            have ec : (TL.numL k)[i]? = some c := by
              rw [← Array.getElem?_toList] at ec
              exact ec
            have hc := hd c (List.mem_of_getElem? ec)
            have hi2 : i < (TL.numL k).length := by
              rw [s_size] at hi
              exact hi
            refine ⟨_, rfl, 10, _, rfl, rfl, .inl (by decide), ⟨_, rfl⟩, _, rfl, _, _, _, _, rfl, rfl, at_digit hc.1 hc.2, _, _, rfl, rfl, ?_⟩
            refine ⟨rfl, some (.str ⟨#[c]⟩), ?_⟩
            have ev : (TL.numL k).take (i + 1) = (TL.numL k).take i ++ [c] := by
              rw [List.take_succ_eq_append_getElem hi2]
              rw [List.getElem?_eq_getElem hi2] at ec
              rw [Option.some.inj ec]
            rw [ev, NumText.digitsVal_snoc]
            generalize NumText.digitsVal ((TL.numL k).take i) = v
            have ez : (10 * (v : Int) + ((c - 48 : Nat) : Int)) = ((v * 10 + (c - 48) : Nat) : Int) := by omega
            show [some (V.str (intS n)), some (V.int 7), some (V.str (SX.S (TL.numL k))), some (V.str ⟨#[c]⟩), some (V.int (10 * (v : Int) + ((c - 48 : Nat) : Int)))] = _
            rw [ez]
          · rintro σ' H2 ⟨rfl, y, rfl⟩
            rw [s_size, List.take_length, TL.numL_val]
            refine ⟨_, rfl, _, rfl, rfl, _, rfl, andC (fun h0 => ?_) (fun h0 => ?_)⟩
            · rw [same] at h0
              have h0 := of_decide_eq_true h0
              refine ⟨_, rfl, size1, fun p np => ?_⟩
              rw [show ((k : Nat) : Int) = n by omega]
              exact q p _ (s1.trans (same_new np)) (s1.free np) upd_same
            · rw [same] at h0
              have h0 := of_decide_eq_false h0
              refine ⟨_, rfl, _, rfl, size1, fun p np => ?_⟩
              have e5 : -((k : Nat) : Int) = n := by omega
              show Q (V.ref p) (upd H2 p (.lst [V.int (-((k : Nat) : Int))]))
              rw [e5]
              exact q p _ (s1.trans (same_new np)) (s1.free np) upd_same
end
end K33
/-! integer_text, words_text. -/
namespace K33
open PySem PySem.Spec PyProof.Rows L2
theorem size0 : (0 : Nat) ≤ sizeLine := Nat.zero_le _
theorem s_empty : ("" : Str) = SX.S [] := by decide +kernel
theorem lnA (m : Nat) : ("-" : Str).length + (⟨#[48 + m]⟩ : Str).length ≤ sizeLine := by
  rw [show ("-" : Str).length = 1 by decide +kernel]
  show 1 + 1 ≤ sizeLine
  decide
theorem lnB (m : Nat) : ("" : Str).length + (⟨#[48 + m]⟩ : Str).length ≤ sizeLine := by
  rw [show ("" : Str).length = 0 by decide +kernel]
  show 0 + 1 ≤ sizeLine
  decide
theorem sum1 : ∀ l : List Nat, ((l.map fun c => SX.S [c]).map (·.length)).sum = l.length
  | [] => rfl
  | c :: l => by
    rw [List.map_cons, List.map_cons, List.sum_cons, sum1 l, List.length_cons, SX.S_len, List.length_singleton]
    omega
theorem joinL1 : ∀ l : List Nat, TL.joinL [] (l.map fun c => [c]) = l
  | [] => rfl
  | [c] => rfl
  | c :: d :: l => by
    have ih := joinL1 (d :: l)
    show [c] ++ ([] ++ TL.joinL [] ((d :: l).map fun c => [c])) = c :: d :: l
    rw [ih]
    rfl
theorem join1 (l : List Nat) : Txt.join "" (l.map fun c => SX.S [c]) = SX.S l := by
  have e := SX.join_S [] (l.map fun c => [c])
  rw [joinL1, List.map_map] at e
  rw [s_empty]
  exact e
def sgn (c : Nat) : V := .str (SX.S [c])
def wIT (n : Int) (p : Addr) (H : Hp) (k m : Nat) (σ : L2.St) (H' : Hp) : Prop := ∃ acc : List Nat, σ = [some (.int n), some (.int (m : Int)), some (.ref p)] ∧ Same H H' ∧ H' p = some (.lst (acc.map sgn)) ∧ TL.numL k = TL.numL m ++ acc.reverse
section
variable {P : Program} {w : World} {K : PySem.W.Frag} {mg : Str → Option Value} {base : Heap}
theorem cal_integer_text (T : Txt K mg) : C8.Cal P w K mg base 1 "integer_text" spIntText [] := by
  refine T.cal at_integer_text at_integer_text rfl rfl sc_integer_text (fun _ _ _ _ _ _ us hl => match us, hl with | [_], _ => rfl) (fun vs H Q E h => ?_) (fun f cdv A outer s H vs Q E hr h => ?_)
  · obtain ⟨n, rfl, _⟩ := h
    rfl
  · obtain ⟨n, rfl, hn, q⟩ := h
    refine ⟨_, pss_cons (ps_par (i := 1) (j := 2) rfl sc_integer_text.nd rfl rfl (by decide) (by rfl) (by rfl) (pa_cons (pe_ifExp (pt_cmpR op_ge (pv 0) pe_int (nomark _)) (pv 0) (pe_un un_neg (pv 0))) (pa_cons (pe_lst pa_nil) pa_nil)) (by rfl))
      (pss_cons (ps_while PassesOwn.never (pt_cmpR op_ge (pv 1) pe_int (nomark _)) (pss_cons (ps_expr (pe_bm PySem.F.plainAttrs_list PySem.F.slot_list_append PySem.F.type_list_append mt_append (pv 2) (pa_cons (pe_ix ix_str (C8.pe_gc (by rfl) T.DIGITS) (pe_op op_mod (pv 1) pe_int) (fun _ _ => rfl)) pa_nil)))
        (pss_one (ps_set (i := 1) sc_integer_text.nd rfl (Or.inl rfl) (pe_op op_fdiv (pv 1) pe_int)))))
      (pss_one (ps_ret (pe_op op_add_str (pe_op op_add_str (pe_ifExp (pt_cmpR op_lt (pv 0) pe_int (nomark _)) pe_str pe_str) (pe_ix ix_str (C8.pe_gc (by rfl) T.DIGITS) (pv 1) (fun _ _ => rfl))) (pe_join pe_str (pe_revL (pv 2))))))), ?_⟩
    have hp : ∀ (m : Int) (p : Addr) (H1 : Hp), m = (n.natAbs : Int) → Same H H1 → H p = none → H1 p = some (.lst []) → wIT n p H n.natAbs n.natAbs [some (.int n), some (.int m), some (.ref p)] H1 := fun m p H1 hm s1 np e1 => ⟨[], by rw [hm], s1, e1, by rw [List.reverse_nil, List.append_nil]⟩
    refine ⟨_, rfl, _, _, rfl, rfl, _, rfl, andC (fun h0 => ?_) (fun h0 => ?_)⟩
    refine ⟨_, rfl, size0, fun p np => ⟨_, _, rfl, ?_⟩⟩
    have w0 := hp n p _ (by have := of_decide_eq_true h0; omega) (same_new np) np upd_same
    rotate_left 1
    refine ⟨_, rfl, n, rfl, size0, fun p np => ⟨_, _, rfl, ?_⟩⟩
    have w0 := hp (-n) p _ (by have := of_decide_eq_false h0; omega) (same_new np) np upd_same
    rotate_left 1
    all_goals
      refine ⟨wIT n p H n.natAbs, ⟨_, w0⟩, ?_⟩
      rintro m σ' H' ⟨acc, rfl, s1, e1, hk⟩
      have hl10 : (TL.numL n.natAbs).length ≤ 10 := TL.numL_len (k := 10) (by decide) (by omega)
      have hacc : acc.length ≤ 10 := by
        rw [hk, List.length_append, List.length_reverse] at hl10
        omega
      refine ⟨_, rfl, _, _, rfl, rfl, _, rfl, andC (fun h1 => ?_) (fun h1 => ?_)⟩
      · have h1 := of_decide_eq_true h1
        refine ⟨wIT n p H n.natAbs (m / 10), fun σ2 H2 h2 => ⟨m / 10, by omega, h2⟩, ?_⟩
        refine ⟨_, rfl, .inl ⟨rfl, _, .of e1⟩, _, rfl, _, 10, rfl, rfl, (show (0 : Int) < 10 by decide), _, _, _, rfl, rfl, by decide +kernel, digit_at (d := m % 10) (by omega), p, _, _, rfl, rfl, e1, by rw [List.length_map]; have := size5; omega, ?_⟩
        refine ⟨_, rfl, _, 10, rfl, rfl, ⟨by decide, by decide⟩, acc ++ [48 + m % 10], ?_, fun b o e => by rw [upd_ne (ne_of_none e np)]; exact s1 b o e, ?_, ?_⟩
        · show [some (V.int n), some (V.int ((m : Int) / 10)), some (V.ref p)] = _
          rw [show ((m : Int) / 10) = ((m / 10 : Nat) : Int) by omega]
        · rw [upd_same, List.map_append]
          rfl
        · rw [hk, TL.numL_step (by omega : 10 ≤ m), List.reverse_append, List.append_assoc]
          rfl
      · have h1 := of_decide_eq_false h1
        have hm : m < 10 := by omega
        refine ⟨_, rfl, _, _, rfl, rfl, _, rfl, andC (fun h2 => ?_) (fun h2 => ?_)⟩
        all_goals
          refine ⟨_, rfl, _, _, _, rfl, rfl, by decide +kernel, digit_at (d := m) hm, _, _, rfl, rfl, (by first | exact lnA _ | exact lnB _), ?_⟩
          refine ⟨⟨_, rfl⟩, _, rfl, p, _, rfl, .of e1, fun p2 np2 => ?_⟩
          refine ⟨_, p2, acc.reverse.map fun c => SX.S [c], rfl, rfl, .inl (.of (by rw [upd_same, ← List.map_reverse, List.map_map]; rfl)), ?_, _, _, rfl, rfl, ?_, ?_⟩
          · rw [sum1, List.length_map, List.length_reverse, show ("" : Str).length = 0 by decide +kernel]
            omega
          · rw [join1]
            have l1 := SX.S_len acc.reverse
            rw [List.length_reverse] at l1
            rw [l1]
            have := sizeBig
            first
              | (show (("-" : Str) ++ (⟨#[48 + m]⟩ : Str)).length + acc.length ≤ sizeLine
                 rw [s_minus, show (⟨#[48 + m]⟩ : Str) = SX.S [48 + m] from rfl, SX.S_cat, SX.S_len, List.length_append, List.length_singleton, List.length_singleton]
                 omega)
              | (show (("" : Str) ++ (⟨#[48 + m]⟩ : Str)).length + acc.length ≤ sizeLine
                 rw [s_empty, show (⟨#[48 + m]⟩ : Str) = SX.S [48 + m] from rfl, SX.S_cat, SX.S_len, List.length_append, List.length_nil, List.length_singleton]
                 omega)
          · rw [join1]
            have s2 : Same H (upd H' p2 (.lst (acc.map sgn).reverse)) := s1.trans (same_new np2)
            have qq := q _ s2
            unfold intS intL at qq
            rw [hk, TL.numL_lt hm] at qq
            first
              | (rw [if_pos (of_decide_eq_true h2)] at qq
                 show Q (V.str ((("-" : Str) ++ SX.S [48 + m]) ++ SX.S acc.reverse)) _
                 rw [s_minus, SX.S_cat, SX.S_cat]
                 exact qq)
              | (rw [if_neg (of_decide_eq_false h2)] at qq
                 show Q (V.str ((("" : Str) ++ SX.S [48 + m]) ++ SX.S acc.reverse)) _
                 rw [s_empty, SX.S_cat, SX.S_cat]
                 exact qq)
end
end K33
/-! words_text, show_text. -/
namespace K33
open PySem PySem.Spec PyProof.Rows L2
def spWords (K : PySem.W.Frag) : Sp := fun vs H Q _ => ∃ (a : Addr) (r : List W), vs = [.ref a] ∧ SqT K H a (r.map W.v) ∧ RowOk r ∧ ∀ H', Same H H' → Q (.str (rowT r)) H'
abbrev N_words : List Str := ["words", "word"]
theorem sc_words_text : FnScope N_words ["words"] (defScope s_words_text) := ⟨rfl, rfl, rfl, by decide +kernel, rfl, by decide +kernel, by decide +kernel⟩
theorem sumlen_le (k : Nat) : ∀ ys : List Str, (∀ y ∈ ys, y.length ≤ k) → (ys.map (·.length)).sum ≤ ys.length * k
  | [], _ => Nat.zero_le _
  | y :: ys, h => by
    have ih := sumlen_le k ys fun z hz => h z (List.mem_cons_of_mem _ hz)
    have h1 := h y List.mem_cons_self
    rw [List.map_cons, List.sum_cons, List.length_cons, Nat.succ_mul]
    omega
section
variable {P : Program} {w : World} {K : PySem.W.Frag} {mg : Str → Option Value} {base : Heap}
theorem cal_words_text (T : Txt K mg) : C8.Cal P w K mg base 2 "words_text" (spWords K) [] := by
  refine T.cal at_words_text at_words_text rfl rfl sc_words_text (fun _ _ _ _ _ _ us hl => match us, hl with | [_], _ => rfl) (fun vs H Q E h => ?_) (fun f cdv A outer s H vs Q E hr h => ?_)
  · obtain ⟨a, r, rfl, _⟩ := h
    rfl
  · obtain ⟨a, r, rfl, hS, hR, q⟩ := h
    refine ⟨_, pss_one (ps_ret (pe_join (C8.pe_gc (by rfl) T.BLANK) (pe_lc (own := [("word", 1)]) (g := gName 1) (tt := tYes) (te := tIf (tB (tCB rIsW (tCons (tVar 1) (tCons (tC (.ty "str")) tNil)))) (tVar 1) (tCall spIntText [] C8.E0 (tCons (tVar 1) tNil))) rfl sc_words_text.nd (pi_tup (pv 0)) (blkOk_by (N := N_words) (sc := defScope s_words_text) (by decide +kernel))
        (fun _ _ _ _ _ => pg_name (i := 1) sc_words_text.nd rfl (.inl rfl)) (fun _ _ _ _ _ => pts_nil)
        (fun _ _ _ _ _ => pe_ifExp (pt_val (pe_callB call_isW (by rfl) T.m_isinstance bt_isinstance (pa_cons (pv 1) (pa_cons (pe_bltn (v := .ty "str") (by rfl) T.m_str bt_str rfl) pa_nil)))) (pv 1) (C8.pe_c (cal_integer_text T) hr (by decide) (by rfl) (pa_cons (pv 1) pa_nil)))))), ?_⟩
    have hl : (r.map W.v).length = r.length := List.length_map _
    have h10 := hR.2.1
    refine ⟨⟨_, rfl⟩, _, rfl, a, rfl, ⟨_, hS⟩, fun D nD => ?_⟩
    refine lc_vals (G := fun H => SqT K H a (r.map W.v)) walk_tup (fun i => V.str (((r.map W.t)[i]?).getD "")) nD (by omega) (fun H1 s1 => (same_fix s1).seqT hS) ?_ ?_
    · rintro i x H1 H2 hi s1 ⟨rfl, ex⟩ Qe Qf qe
      rw [List.getElem?_map] at ex
      cases hx : r[i]? with
      | none => rw [hx] at ex; cases ex
      | some u =>
        rw [hx] at ex
        obtain rfl := Option.some.inj ex
        have hu := hR.2.2 u (List.mem_of_getElem? hx)
        rw [List.getElem?_map, hx] at qe
        refine ⟨rfl, ⟨_, rfl, u, rfl, _, rfl, ?_⟩⟩
        cases u with
        | s z => exact iteT ⟨_, rfl, qe _ fun _ _ z => z⟩
        | i n =>
          have hu : -9999999 ≤ n ∧ n ≤ 9999999 := hu
          exact iteF ⟨_, rfl, n, rfl, by omega, fun H3 s3 => qe H3 s3⟩
    · intro H1 s1 e1
      have el : (List.range (r.map W.v).length).map (fun i => V.str (((r.map W.t)[i]?).getD "")) = (r.map W.t).map V.str := by
        refine List.ext_getElem (by simp) fun i h1 h2 => ?_
        rw [List.length_map, List.length_range, List.length_map] at h1
        simp [h1]
      rw [el] at e1
      refine ⟨" ", D, r.map W.t, rfl, rfl, .inl (.of e1), ?_, q H1 s1⟩
      have a1 := sumlen_le 8 (r.map W.t) fun y hy => by
        obtain ⟨u, hu, rfl⟩ := List.mem_map.mp hy
        exact W.len (hR.2.2 u hu)
      rw [List.length_map] at a1 ⊢
      rw [show (" " : Str).length = 1 by decide +kernel]
      omega
end
end K33
/-! show_text. -/
namespace K33
open PySem PySem.Spec PyProof.Rows L2
theorem cat_of {K : PySem.W.Frag} {H : Hp} {p a : Addr} {xs ys : List V} {Q : VK} (h1 : SqT K H p xs) (h2 : SqT K H a ys) (hx : xs ≠ []) (hl : xs.length + ys.length ≤ 1000) (q : ∀ b H', Same H H' → SqT K H' b (xs ++ ys) → Q (.ref b) H') : rCatT K (.ref p) (.ref a) H Q := by
  refine ⟨p, a, xs, ys, rfl, rfl, h1, h2, hx, Nat.le_of_lt (small hl), fun e => ?_, fun _ b nb => ?_⟩
  · refine q p H (fun _ _ z => z) ?_
    rw [e, List.append_nil]
    exact h1
  · exact q b _ (same_new nb) (.of upd_same)
theorem tupOnly_ws (r : List W) : tupOnly (wsD r) = true := by
  unfold wsD
  rw [tupOnly, tupOnlyAll_iff]
  intro d hd
  obtain ⟨u, _, rfl⟩ := List.mem_map.mp hd
  cases u <;> (unfold W.d tupOnly; rfl)
def RowsAt (K : PySem.W.Frag) (H1 : Hp) (R : Addr) (rws : List (List W)) (H : Hp) : Prop := Same H1 H ∧ ∃ rs, H R = some (.lst rs) ∧ DpAll K H rs (rws.map wsD)
theorem RowsAt.same {K : PySem.W.Frag} {H1 : Hp} {R : Addr} {rws : List (List W)} {H H' : Hp} (h : RowsAt K H1 R rws H) (s : Same H H') : RowsAt K H1 R rws H' := by
  obtain ⟨s1, rs, e, d⟩ := h
  exact ⟨s1.trans s, rs, s _ _ e, DpAll.fix (same_fix s) _ _ d⟩
theorem fixT_lst {H : Hp} {R : Addr} {xs ys : List V} (e : H R = some (.lst xs)) : FixT H (upd H R (.lst ys)) := by
  intro b us r
  rcases r with r | ⟨o, r⟩
  · exact .inl (by rw [upd_ne (ne_of r e (by intro z; cases z))]; exact r)
  · exact .inr ⟨o, by rw [upd_ne (ne_of r e (by intro z; cases z))]; exact r⟩
theorem tupOnlyAll_ws (rws : List (List W)) : tupOnlyAll (rws.map wsD) = true := tupOnlyAll_iff.mpr fun d hd => by
  obtain ⟨r, _, rfl⟩ := List.mem_map.mp hd
  exact tupOnly_ws r
theorem RowsAt.put {K : PySem.W.Frag} {H1 : Hp} {R : Addr} {rws more : List (List W)} {H : Hp} {rs acc : List V} (nR : H1 R = none) (s1 : Same H1 H) (e : H R = some (.lst rs)) (d : DpAll K H rs (rws.map wsD)) (da : DpAll K H acc (more.map wsD)) : RowsAt K H1 R (rws ++ more) (upd H R (.lst (rs ++ acc))) := by
  refine ⟨same_at nR s1, _, upd_same, ?_⟩
  rw [List.map_append]
  exact dpAll_app (DpAll.fixT (fixT_lst e) _ _ (tupOnlyAll_ws _) d) (DpAll.fixT (fixT_lst e) _ _ (tupOnlyAll_ws _) da)
theorem map_iv (ns : List Int) : ns.map V.int = (ns.map W.i).map W.v := by
  rw [List.map_map]
  rfl
theorem line_dp {K : PySem.W.Frag} {H : Hp} {b : Addr} {x : Str} {ns : List Int} (h : SqT K H b ([V.str x] ++ ns.map V.int)) : Dp K H (.ref b) (wsD (lineOf x ns)) := by
  rw [map_iv] at h
  exact ws_dp (ws := .s x :: ns.map W.i) h
theorem shaped_ints (ns : List Int) : SeqAt.shaped (dInts ns) = true := shaped_by (k := 1) (lay_tup fun d hd => by
  obtain ⟨n, _, rfl⟩ := List.mem_map.mp hd
  exact lay_int n) (dep_tup (k := 0) fun d hd => by
  obtain ⟨n, _, rfl⟩ := List.mem_map.mp hd
  exact Nat.le_of_eq (dep_int n)) (by decide)
theorem eqv_ints_nil (ns : List Int) : PyData.eqv (dInts ns) (.tuple []) = decide (ns = []) := by
  unfold dInts PyData.eqv
  cases ns <;> (unfold PyData.eqvAll; rfl)
theorem size2 : (2 : Nat) ≤ sizeLine := by decide
theorem deed_len (d : Deed) : d.w.length ≤ 2 := by cases d <;> simp [Deed.w]
def hsR (S : Show) : Nat → List (List W)
  | 0 => []
  | 1 => someLine "hands" S.hands
  | _ + 2 => someLine "hands" S.hands ++ someLine "safes" S.safes
theorem hsR_len (S : Show) (k : Nat) : (hsR S k).length ≤ 2 := by
  have a := someLine_len "hands" S.hands
  have b := someLine_len "safes" S.safes
  match k with
  | 0 => exact Nat.zero_le _
  | 1 => exact Nat.le_trans a (by decide)
  | _ + 2 =>
    show (someLine "hands" S.hands ++ someLine "safes" S.safes).length ≤ 2
    rw [List.length_append]
    omega
def spShowText (K : PySem.W.Frag) : Sp := fun vs H Q _ => ∃ (v : V) (s : Show), vs = [v] ∧ Dp K H v s.d ∧ Valid s ∧ LamX.Tabs (Ts K) H ∧ ∀ H', LamX.ExtN H H' → LamX.Tabs (Ts K) H' → Q (.str (showT s)) H'
abbrev N_st : List Str := ["show", "strips", "members", "gangs", "hands", "safes", "scenes", "order", "rows", "scene", "own", "word", "part", "deed", "row"]
theorem sc_show_text : FnScope N_st ["show"] (defScope s_show_text) := ⟨rfl, rfl, rfl, by decide +kernel, rfl, by decide +kernel, by decide +kernel⟩
/-- a def that may be called by keywords: its promise, its text -/
structure CalK (P : Program) (w : World) (K : PySem.W.Frag) (mg : Str → Option Value) (base : Heap) (k : Nat) (x : Str) (st : Stmt) (ps : List Str) (sp : Sp) : Prop where
  ex : ∃ (f : Addr) (fd : FuncData), FnOk P w K mg base C8.CX0 k f fd ps sp ∧ mg x = some (.ref f) ∧ PySem.W.keepIn K (.ref f) = true ∧ FunD K x x (defArgs st) (defBody st) (defScope st) [] [] f fd ∧ Binds K fd ps []
theorem CalK.cal {P : Program} {w : World} {K : PySem.W.Frag} {mg : Str → Option Value} {base : Heap} {k : Nat} {x : Str} {st : Stmt} {ps : List Str} {sp : Sp} (c : CalK P w K mg base k x st ps sp) : C8.Cal P w K mg base k x sp [] := by
  obtain ⟨f, fd, F, hm, kp, _, b⟩ := c.ex
  exact ⟨f, fd, ps, [], F, hm, kp, b, .nil⟩
theorem Txt.calK {P : Program} {w : World} {K : PySem.W.Frag} {mg : Str → Option Value} {base : Heap} (T : Txt K mg) {x : Str} {st : Stmt} {N ps : List Str} {k : Nat} {sp : Sp} (i j : Nat) (hi : fn[i]? = some (defD x st)) (hj : fa[j]? = some (.glo x)) (S : FnScope N ps (defScope st))
    (hb : ∀ (kV doc pm : Value) (an : Option Addr) (cdv ct : Value) (us : List Value), us.length = ps.length → bindArgs (PySem.W.fnOf x x (defArgs st) (defBody st) (defScope st) .none kV doc pm an cdv ct) ⟨us, []⟩ = pure (ps.zip us))
    (len : ∀ vs H Q E, sp vs H Q E → vs.length = ps.length)
    (hbody : ∀ (f : Addr) (cdv : Value) (A : Around) (outer : List Env) (s : Shared) (H : Hp) (vs : List V) (Q : VK) (E : XK), Room k (A.deeper (envOfC x (defScope st) s.heap.objs.size f cdv)) → sp vs H Q E →
      ∃ t, PSs (cxOf C8.CX0 P w K mg base N x (defScope st) f cdv A outer s H E).nox (defBody st) t ∧ t { nx := fun _ H' => Q .non H', rt := Q } (L2.start N vs) H) : CalK P w K mg base (k + 1) x st ps sp := by
  obtain ⟨fd, F⟩ := T.says.def_ i (d := defD x st) hi
  refine ⟨_, fd, F.ok S len (fun cdv A outer s H vs Q E hr hs => ?_), T.glo x j hj, F.kp, F, F.bindsN hb⟩
  obtain ⟨t, h1, h2⟩ := hbody _ cdv A outer s H vs Q E hr hs
  exact ⟨t, h1.nox, h2⟩
section
variable {P : Program} {w : World} {K : PySem.W.Frag} {mg : Str → Option Value} {base : Heap}
theorem calK_show_text (T : Txt K mg) (TB : TBase base K mg) : CalK P w K mg base 8 "show_text" s_show_text ["show"] (spShowText K) := by
  refine T.calK at_show_text at_show_text rfl rfl sc_show_text (fun _ _ _ _ _ _ us hl => match us, hl with | [_], _ => rfl) (fun vs H Q E h => ?_) (fun f cdv A outer s H vs Q E hr h => ?_)
  · obtain ⟨v, S, rfl, _⟩ := h
    rfl
  · obtain ⟨v, S, rfl, hd, hV, hT, q⟩ := h
    refine ⟨_, pss_cons (ps_asg (C8.pe_c (cal_need_show T TB) hr (by decide) (by rfl) (pa_cons (pv 0) pa_nil)) (pg_tup rfl (pgs_cons (pg_name (i := 1) sc_show_text.nd rfl (Or.inl rfl)) (pgs_cons (pg_name (i := 2) sc_show_text.nd rfl (Or.inl rfl)) (pgs_cons (pg_name (i := 3) sc_show_text.nd rfl (Or.inl rfl)) (pgs_cons (pg_name (i := 4) sc_show_text.nd rfl (Or.inl rfl))
          (pgs_cons (pg_name (i := 5) sc_show_text.nd rfl (Or.inl rfl)) (pgs_cons (pg_name (i := 6) sc_show_text.nd rfl (Or.inl rfl)) (pgs_cons (pg_name (i := 7) sc_show_text.nd rfl (Or.inl rfl)) pgs_nil)))))))))
      (pss_cons (ps_set (i := 8) sc_show_text.nd rfl (Or.inl rfl) (pe_lst (pa_cons (pe_tup (pa_cons (C8.pe_gc (by rfl) T.STRIPS) (pa_cons (pv 1) pa_nil))) pa_nil)))
      (pss_cons (ps_expr (pe_bm PySem.F.plainAttrs_list PySem.F.slot_list_extend PySem.F.type_list_extend mt_extend (pv 8) (pa_cons (pe_lc (own := [("own", 10)]) (g := gName 10) (tt := tYes) (te := tOp (rCatT K) (tTup (tCons (tC (.str "group")) tNil)) (tVar 10)) rfl sc_show_text.nd (pi_tup (pv 2)) (blkOk_by (N := N_st) (sc := defScope s_show_text) (by decide +kernel))
          (fun _ _ _ _ _ => pg_name (i := 10) sc_show_text.nd rfl (.inl rfl)) (fun _ _ _ _ _ => pts_nil) (fun _ _ _ _ _ => pe_op op_catT (pe_tup (pa_cons (C8.pe_gc (by rfl) T.GROUP) pa_nil)) (pv 10))) pa_nil)))
      (pss_cons (ps_expr (pe_bm PySem.F.plainAttrs_list PySem.F.slot_list_extend PySem.F.type_list_extend mt_extend (pv 8) (pa_cons (pe_lc (own := [("own", 10)]) (g := gName 10) (tt := tYes) (te := tOp (rCatT K) (tTup (tCons (tC (.str "gang")) tNil)) (tVar 10)) rfl sc_show_text.nd (pi_tup (pv 3)) (blkOk_by (N := N_st) (sc := defScope s_show_text) (by decide +kernel))
          (fun _ _ _ _ _ => pg_name (i := 10) sc_show_text.nd rfl (.inl rfl)) (fun _ _ _ _ _ => pts_nil) (fun _ _ _ _ _ => pe_op op_catT (pe_tup (pa_cons (C8.pe_gc (by rfl) T.GANG) pa_nil)) (pv 10))) pa_nil)))
      (pss_cons (ps_expr (pe_bm PySem.F.plainAttrs_list PySem.F.slot_list_extend PySem.F.type_list_extend mt_extend (pv 8) (pa_cons (pe_lc (own := [("word", 11), ("own", 10)]) (g := gTup K 2 (gCons (gName 11) (gCons (gName 10) gNil))) (tt := tTest (tOp (rNeD K) (tVar 10) (tTup tNil))) (te := tOp (rCatT K) (tTup (tCons (tVar 11) tNil)) (tVar 10)) rfl sc_show_text.nd
          (pi_tup (pe_tup (pa_cons (pe_tup (pa_cons (C8.pe_gc (by rfl) T.HANDS) (pa_cons (pv 4) pa_nil))) (pa_cons (pe_tup (pa_cons (C8.pe_gc (by rfl) T.SAFES) (pa_cons (pv 5) pa_nil))) pa_nil)))) (blkOk_by (N := N_st) (sc := defScope s_show_text) (by decide +kernel))
          (fun _ _ _ _ _ => pg_tup rfl (pgs_cons (pg_name (i := 11) sc_show_text.nd rfl (.inl rfl)) (pgs_cons (pg_name (i := 10) sc_show_text.nd rfl (.inl rfl)) pgs_nil))) (fun _ _ _ _ _ => pts_one (pt_cmpR (op_neD hr.units) (pv 10) (pe_tup pa_nil) (nomark _))) (fun _ _ _ _ _ => pe_op op_catT (pe_tup (pa_cons (pv 11) pa_nil)) (pv 10))) pa_nil)))
      (pss_cons (ps_for PassesOwn.never rfl (pi_tup (pv 6)) (pg_name (i := 9) sc_show_text.nd rfl (.inl rfl))
        (pss_cons (ps_expr (pe_bm PySem.F.plainAttrs_list PySem.F.slot_list_append PySem.F.type_list_append mt_append (pv 8) (pa_cons (pe_tup (pa_cons (C8.pe_gc (by rfl) T.SCENE) pa_nil)) pa_nil)))
        (pss_one (ps_expr (pe_bm PySem.F.plainAttrs_list PySem.F.slot_list_extend PySem.F.type_list_extend mt_extend (pv 8) (pa_cons (pe_lc (own := [("part", 12), ("deed", 13)]) (g := gTup K 2 (gCons (gName 12) (gCons (gName 13) gNil))) (tt := tYes) (te := tOp (rCatT K) (tVar 12) (tVar 13)) rfl sc_show_text.nd (pi_tup (pv 9)) (blkOk_by (N := N_st) (sc := defScope s_show_text) (by decide +kernel))
          (fun _ _ _ _ _ => pg_tup rfl (pgs_cons (pg_name (i := 12) sc_show_text.nd rfl (.inl rfl)) (pgs_cons (pg_name (i := 13) sc_show_text.nd rfl (.inl rfl)) pgs_nil))) (fun _ _ _ _ _ => pts_nil) (fun _ _ _ _ _ => pe_op op_catT (pv 12) (pv 13))) pa_nil))))))
      (pss_cons (ps_if (pt_cmpR (op_neD hr.units) (pv 7) (pe_tup pa_nil) (nomark _)) (pss_one (ps_expr (pe_bm PySem.F.plainAttrs_list PySem.F.slot_list_append PySem.F.type_list_append mt_append (pv 8) (pa_cons (pe_op op_catT (pe_tup (pa_cons (C8.pe_gc (by rfl) T.LIST) pa_nil)) (pv 7)) pa_nil)))) pss_nil)
      (pss_one (ps_ret (pe_join (C8.pe_gc (by rfl) T.LINE) (pe_lc (own := [("row", 14)]) (g := gName 14) (tt := tYes) (te := tCall (spWords K) [] C8.E0 (tCons (tVar 14) tNil)) rfl sc_show_text.nd (pi_list (pv 8)) (blkOk_by (N := N_st) (sc := defScope s_show_text) (by decide +kernel))
          (fun _ _ _ _ _ => pg_name (i := 14) sc_show_text.nd rfl (.inl rfl)) (fun _ _ _ _ _ => pts_nil) (fun _ _ _ _ _ => C8.pe_c (cal_words_text T) hr (by decide) (by rfl) (pa_cons (pv 14) pa_nil)))))))))))), ?_⟩
    obtain ⟨a, m, g, hh, sf, c, o, rfl, hA⟩ := dp_show hd
    have hst := hV.st
    have hml := hV.ml
    have hgl := hV.gl
    have hcl := hV.cl
    have hln : S.lines = S.strips + S.members.length := rfl
    refine ⟨_, rfl, _, S, rfl, hd, hV, hT, fun H1 x1 T1 => ?_⟩
    have A1 := hA.fix (extN_fix x1)
    refine ⟨a, _, rfl, A1.top, rfl, _, _, rfl, _, _, rfl, _, _, rfl, _, _, rfl, _, _, rfl, _, _, rfl, _, _, rfl, rfl, ?_⟩
    refine ⟨_, rfl, size2, fun p np => ⟨size1, fun R nR => ?_⟩⟩
    have sb : Same H1 (upd H1 p (.tup [.str "strips", .int S.strips])) := same_new np
    have Ab := A1.fix (same_fix sb)
    have xb := x1.trans (same_extN sb)
    have Tb := T1.ext sb
    have r0 : RowsAt K (upd H1 p (.tup [.str "strips", .int S.strips])) R [[.s "strips", .i S.strips]] (upd (upd H1 p (.tup [.str "strips", .int S.strips])) R (.lst [.ref p])) :=
      ⟨same_new nR, _, upd_same, .cons (ws_dp (ws := [.s "strips", .i S.strips]) ((same_fix (same_new nR)).seqT (.of upd_same))) .nil⟩
    generalize upd (upd H1 p (.tup [.str "strips", .int S.strips])) R (.lst [.ref p]) = H2 at r0 ⊢
    generalize upd H1 p (.tup [.str "strips", .int S.strips]) = Hb at r0 Ab xb Tb nR sb
    clear sb np
    obtain ⟨ms, hms, dms, lms⟩ := tup_ints Ab.mem
    obtain ⟨gs, hgs, dgs, lgs⟩ := tup_ints Ab.gng
    have bm : ∀ l ∈ S.members, l.length ≤ 9 := fun l hl => by
      have := (hV.mr l hl).len (by omega)
      omega
    have bg : ∀ l ∈ S.gangs, l.length ≤ 9 := fun l hl => by
      have := (hV.gr l hl).1.len (by omega)
      omega
    -- members
    obtain ⟨s0, rs, eR, dR⟩ := r0
    refine ⟨_, rfl, .inl ⟨rfl, _, .of eR⟩, _, rfl, m, rfl, ⟨_, (same_fix s0).seqT hms⟩, fun D nD => ?_⟩
    refine lc_data (K := K) (G := fun H => SqT K H m ms) walk_tup ((S.members.map (lineOf "group")).map wsD) (fun d hd => tupOnlyAll_iff.mp (tupOnlyAll_ws _) d hd) (by rw [List.length_map, List.length_map, lms]) nD (by rw [lms]; omega) (fun H1 s1 => (same_fix (s0.trans s1)).seqT hms) ?_ ?_
    · rintro i x d H3 H4 hi ed s3 ⟨rfl, ex⟩ Qe Qf qe
      obtain ⟨dd, ed2, dx⟩ := dpAll_at (DpAll.fix (same_fix (s0.trans s3)) _ _ dms) ex
      have hi2 : i < S.members.length := by omega
      rw [List.getElem?_map, List.getElem?_eq_getElem hi2] at ed2
      obtain rfl := Option.some.inj ed2
      obtain ⟨oa, rfl, hoa⟩ := dp_ints dx
      rw [List.getElem?_map, List.getElem?_map, List.getElem?_eq_getElem hi2] at ed
      obtain rfl := Option.some.inj ed
      refine ⟨rfl, ⟨size1, fun p2 np2 => ⟨_, rfl, cat_of (.of upd_same) ((same_fix (same_new np2)).seqT hoa) (by simp) ?_ fun b H5 s5 hb => qe _ _ ((same_new np2).trans s5) (line_dp hb)⟩⟩⟩
      rw [List.length_map, List.length_singleton]
      have := bm S.members[i] (List.getElem_mem hi2)
      omega
    intro H5 acc s5 eD da
    have lacc := dpAll_len da
    have lrs := dpAll_len dR
    rw [List.length_map] at lacc lrs
    rw [List.length_map] at lacc
    refine ⟨_, _, rs, acc, rfl, rfl, s5 _ _ eR, eD, Nat.le_of_lt (small (by rw [lacc, lrs]; rw [List.length_singleton]; omega)), ?_⟩
    have r1 := RowsAt.put nR (s0.trans s5) (s5 _ _ eR) (DpAll.fix (same_fix s5) _ _ dR) da
    clear lacc lrs
    generalize upd H5 _ (.lst (rs ++ acc)) = H1 at r1 ⊢
    clear dR eR s0 eD da s5 nD
    -- gangs
    obtain ⟨s0, rs, eR, dR⟩ := r1
    refine ⟨_, rfl, .inl ⟨rfl, _, .of eR⟩, _, rfl, g, rfl, ⟨_, (same_fix s0).seqT hgs⟩, fun D nD => ?_⟩
    refine lc_data (K := K) (G := fun H => SqT K H g gs) walk_tup ((S.gangs.map (lineOf "gang")).map wsD) (fun d hd => tupOnlyAll_iff.mp (tupOnlyAll_ws _) d hd) (by rw [List.length_map, List.length_map, lgs]) nD (by rw [lgs]; omega) (fun H1 s1 => (same_fix (s0.trans s1)).seqT hgs) ?_ ?_
    · rintro i x d H3 H4 hi ed s3 ⟨rfl, ex⟩ Qe Qf qe
      obtain ⟨dd, ed2, dx⟩ := dpAll_at (DpAll.fix (same_fix (s0.trans s3)) _ _ dgs) ex
      have hi2 : i < S.gangs.length := by omega
      rw [List.getElem?_map, List.getElem?_eq_getElem hi2] at ed2
      obtain rfl := Option.some.inj ed2
      obtain ⟨oa, rfl, hoa⟩ := dp_ints dx
      rw [List.getElem?_map, List.getElem?_map, List.getElem?_eq_getElem hi2] at ed
      obtain rfl := Option.some.inj ed
      refine ⟨rfl, ⟨size1, fun p2 np2 => ⟨_, rfl, cat_of (.of upd_same) ((same_fix (same_new np2)).seqT hoa) (by simp) ?_ fun b H5 s5 hb => qe _ _ ((same_new np2).trans s5) (line_dp hb)⟩⟩⟩
      rw [List.length_map, List.length_singleton]
      have := bg S.gangs[i] (List.getElem_mem hi2)
      omega
    intro H5 acc s5 eD da
    have lacc := dpAll_len da
    have lrs := dpAll_len dR
    rw [List.length_map] at lacc lrs
    rw [List.length_map] at lacc
    refine ⟨_, _, rs, acc, rfl, rfl, s5 _ _ eR, eD, Nat.le_of_lt (small (by rw [lacc, lrs]; rw [List.length_append, List.length_singleton, List.length_map]; omega)), ?_⟩
    have r2 := RowsAt.put nR (s0.trans s5) (s5 _ _ eR) (DpAll.fix (same_fix s5) _ _ dR) da
    clear lacc lrs
    generalize upd H5 _ (.lst (rs ++ acc)) = H2 at r2 ⊢
    clear dR eR s0 eD da s5 nD
    -- hands, safes
    obtain ⟨s0, rs, eR, dR⟩ := r2
    have lrs := dpAll_len dR
    rw [List.length_map, List.length_append, List.length_append, List.length_singleton, List.length_map, List.length_map] at lrs
    refine ⟨_, rfl, .inl ⟨rfl, _, .of eR⟩, _, rfl, size2, fun p1 np1 => ⟨_, rfl, size2, fun p2 np2 => ⟨size2, fun p3 np3 => ⟨p3, rfl, ⟨_, .of upd_same⟩, fun D nD => ?_⟩⟩⟩⟩
    have c1 : Same H2 (upd H2 p1 (.tup [.str "hands", .ref hh])) := same_new np1
    have c2 := same_new (o := .tup [.str "safes", .ref sf]) np2
    have c3 := same_new (o := .tup [.ref p1, .ref p2]) np3
    have e1 : SqT K _ p1 [.str "hands", .ref hh] := (same_fix (c2.trans c3)).seqT (.of upd_same)
    have e2 : SqT K _ p2 [.str "safes", .ref sf] := (same_fix c3).seqT (.of upd_same)
    have e3 : SqT K (upd (upd (upd H2 p1 (.tup [.str "hands", .ref hh])) p2 (.tup [.str "safes", .ref sf])) p3 (.tup [.ref p1, .ref p2])) p3 [.ref p1, .ref p2] := .of upd_same
    have s3 := (c1.trans c2).trans c3
    generalize upd (upd (upd H2 p1 (.tup [.str "hands", .ref hh])) p2 (.tup [.str "safes", .ref sf])) p3 (.tup [.ref p1, .ref p2]) = H3 at e1 e2 e3 s3 nD ⊢
    clear c1 c2 c3 np1 np2 np3
    have hhn := hV.hr.len (by omega)
    have hsn := hV.sr.len (by omega)
    have hh3 := (same_fix (s0.trans s3)).seqT Ab.hnd
    have hs3 := (same_fix (s0.trans s3)).seqT Ab.saf
    refine lc_it (G := fun H => SqT K H p3 [.ref p1, .ref p2]) (n := 2) (walk_tup (xs := [V.ref p1, V.ref p2])) (fun k H => k ≤ 2 ∧ RowsAt K H3 D (hsR S k) H) ⟨by omega, same_new nD, [], upd_same, .nil⟩ (fun k H _ p => (same_fix p.2.1).seqT e3) ?_ ?_
    · rintro k x H4 H5 hk ⟨_, s4, acc, eD, da⟩ ⟨rfl, ex⟩
      obtain ⟨pk, x1, ns, oa, rfl, hpk, hoa, hns, hst⟩ : ∃ pk x1 ns oa, x = .ref pk ∧ SqT K H5 pk [.str x1, .ref oa] ∧ SqT K H5 oa (ns.map V.int) ∧ ns.length ≤ 9 ∧ hsR S (k + 1) = hsR S k ++ someLine x1 ns := by
        match k, hk, ex with
        | 0, _, ex => exact ⟨p1, "hands", S.hands, hh, (Option.some.inj ex).symm, (same_fix s4).seqT e1, (same_fix s4).seqT hh3, by omega, rfl⟩
        | 1, _, ex => exact ⟨p2, "safes", S.safes, sf, (Option.some.inj ex).symm, (same_fix s4).seqT e2, (same_fix s4).seqT hs3, by omega, rfl⟩
      have lacc := dpAll_len da
      rw [List.length_map] at lacc
      have l2 := hsR_len S k
      refine ⟨pk, _, rfl, hpk, rfl, _, _, rfl, _, _, rfl, ⟨rfl, rfl, _, rfl, size0, fun p5 np5 => ⟨dInts ns, .tuple [], ints_dp ((same_fix (same_new np5)).seqT hoa), .tup (.of upd_same) .nil, shaped_ints ns, shaped_nil, _, rfl, ?_⟩⟩⟩
      have s5 := s4.trans (same_new (o := .tup []) np5)
      by_cases hn : ns = []
      · refine ifF (by rw [eqv_ints_nil, decide_eq_true hn]; rfl) ⟨by omega, ?_⟩
        rw [hst, hn]
        have e : hsR S k ++ someLine x1 [] = hsR S k := by
          unfold someLine
          rw [if_pos rfl, List.append_nil]
        rw [e]
        exact RowsAt.same ⟨s4, acc, eD, da⟩ (same_new np5)
      · refine ifT (by rw [eqv_ints_nil, decide_eq_false hn]; rfl) ?_
        refine ⟨_, rfl, size1, fun p6 np6 => ⟨_, rfl, cat_of (.of upd_same) ((same_fix ((same_new np5).trans (same_new np6))).seqT hoa) (by simp) (by rw [List.length_map, List.length_singleton]; omega) fun b H7 s7 hb => ?_⟩⟩
        have s57 : Same H5 H7 := ((same_new np5).trans (same_new np6)).trans s7
        refine ⟨acc, s57 _ _ eD, small (by omega), by omega, ?_⟩
        rw [hst]
        have e : someLine x1 ns = [lineOf x1 ns] := by
          unfold someLine
          rw [if_neg hn]
        rw [e]
        exact RowsAt.put nD (s4.trans s57) (s57 _ _ eD) (DpAll.fix (same_fix s57) _ _ da) (.cons (line_dp hb) .nil)
    rintro H6 ⟨_, s6, acc, eD, da⟩
    have lacc := dpAll_len da
    rw [List.length_map] at lacc
    have l2 := hsR_len S 2
    have s36 := s3.trans s6
    refine ⟨_, _, rs, acc, rfl, rfl, s36 _ _ eR, eD, Nat.le_of_lt (small (by omega)), ?_⟩
    have r3 := RowsAt.put nR (s0.trans s36) (s36 _ _ eR) (DpAll.fix (same_fix s36) _ _ dR) da
    have lpre : ([[W.s "strips", W.i S.strips]] ++ S.members.map (lineOf "group") ++ S.gangs.map (lineOf "gang") ++ hsR S 2).length ≤ 10 := by
      rw [List.length_append, List.length_append, List.length_append, List.length_singleton, List.length_map, List.length_map]
      omega
    generalize hpre : [[W.s "strips", W.i S.strips]] ++ S.members.map (lineOf "group") ++ S.gangs.map (lineOf "gang") ++ hsR S 2 = pre at r3 lpre
    generalize upd H6 R (.lst (rs ++ acc)) = H8 at r3 ⊢
    clear dR eR s0 eD da s6 nD s36 lacc l2 lrs e1 e2 e3 s3 hh3 hs3
    -- scenes
    obtain ⟨_, cs, ec, hcs, dcs⟩ := dp_tup Ab.scn
    cases ec
    have lcs : cs.length = S.scenes.length := by rw [dpAll_len dcs, List.length_map]
    refine ⟨_, rfl, c, rfl, ⟨_, (same_fix r3.1).seqT hcs⟩, ?_⟩
    refine for_tup (xs := cs) (fun i σ' H' => (∃ x, σ' = [some (.ref a), some (.int S.strips), some (.ref m), some (.ref g), some (.ref hh), some (.ref sf), some (.ref c), some (.ref o), some (.ref R), x, none, none, none, none, none]) ∧ RowsAt K Hb R (pre ++ ((S.scenes.take i).map sceneRows).flatten) H' ∧ (pre ++ ((S.scenes.take i).map sceneRows).flatten).length ≤ 10 + 13 * i)
      ⟨⟨_, rfl⟩, ?_, ?_⟩ (fun i σ' H' _ p => (same_fix p.2.1.1).seqT hcs) ?_ ?_
    · rw [List.take_zero, List.map_nil, List.flatten_nil, List.append_nil]
      exact r3
    · rw [List.take_zero, List.map_nil, List.flatten_nil, List.append_nil]
      omega
    · rintro i x σ' H9 ex ⟨⟨y, rfl⟩, ⟨s9, rs, eR, dR⟩, bd⟩
      have hi : i < S.scenes.length := by rw [← lcs]; exact (List.getElem?_eq_some_iff.mp ex).1
      obtain ⟨dd, ed, dx⟩ := dpAll_at dcs ex
      rw [List.getElem?_map, List.getElem?_eq_getElem hi] at ed
      obtain rfl := Option.some.inj ed
      obtain ⟨sa, es, rfl, hes, des⟩ := dp_tup dx
      have les : es.length = S.scenes[i].length := by rw [dpAll_len des, List.length_map]
      have l12 := (hV.cr S.scenes[i] (List.getElem_mem _)).1
      have lrs := dpAll_len dR
      rw [List.length_map] at lrs
      refine ⟨_, rfl, .inl ⟨rfl, _, .of eR⟩, size1, fun p1 np1 => ⟨R, rs, .ref p1, rfl, rfl, same_new np1 _ _ eR, small (by omega), ?_⟩⟩
      have r4 := RowsAt.put nR (s9.trans (same_new (o := .tup [.str "scene"]) np1)) (same_new np1 _ _ eR) (DpAll.fix (same_fix (same_new np1)) _ _ dR) (more := [[.s "scene"]]) (acc := [.ref p1]) (.cons (ws_dp (ws := [.s "scene"]) (.of upd_same)) .nil)
      generalize upd (upd H9 p1 (.tup [.str "scene"])) R (.lst (rs ++ [.ref p1])) = H10 at r4 ⊢
      clear dR eR s9 np1 lrs
      obtain ⟨s10, rs, eR, dR⟩ := r4
      have lrs := dpAll_len dR
      rw [List.length_map, List.length_append, List.length_singleton] at lrs
      refine ⟨_, rfl, .inl ⟨rfl, _, .of eR⟩, _, rfl, sa, rfl, ⟨_, (same_fix s10).seqT hes⟩, fun D nD => ?_⟩
      refine lc_data (K := K) (G := fun H => SqT K H sa es) walk_tup ((S.scenes[i].map Ent.w).map wsD) (fun d hd => tupOnlyAll_iff.mp (tupOnlyAll_ws _) d hd) (by rw [List.length_map, List.length_map, les]) nD (by omega) (fun H1 s1 => (same_fix (s10.trans s1)).seqT hes) ?_ ?_
      · rintro j x d H3 H4 hj ed s3 ⟨rfl, ex⟩ Qe Qf qe
        obtain ⟨dd, ed2, dx⟩ := dpAll_at (DpAll.fix (same_fix (s10.trans s3)) _ _ des) ex
        have hj2 : j < S.scenes[i].length := by omega
        rw [List.getElem?_map, List.getElem?_eq_getElem hj2] at ed2
        obtain rfl := Option.some.inj ed2
        obtain ⟨t, p2, q2, rfl, ht, hp, hq⟩ := dp_ent dx
        rw [List.getElem?_map, List.getElem?_map, List.getElem?_eq_getElem hj2] at ed
        obtain rfl := Option.some.inj ed
        refine ⟨t, _, rfl, ht, rfl, _, _, rfl, _, _, rfl, ⟨rfl, rfl, ⟨_, rfl, _, rfl, cat_of hp hq (by simp) ?_ fun b H5 s5 hb => qe _ _ s5 (ws_dp (ws := S.scenes[i][j].w) hb)⟩⟩⟩
        have := deed_len S.scenes[i][j].deed
        rw [List.length_map]
        show 2 + _ ≤ 1000
        omega
      · intro H5 acc s5 eD da
        have lacc := dpAll_len da
        rw [List.length_map, List.length_map] at lacc
        refine ⟨_, _, rs, acc, rfl, rfl, s5 _ _ eR, eD, Nat.le_of_lt (small (by omega)), ?_⟩
        have r6 := RowsAt.put nR (s10.trans s5) (s5 _ _ eR) (DpAll.fix (same_fix s5) _ _ dR) da
        have ee : pre ++ ((S.scenes.take i).map sceneRows).flatten ++ [[W.s "scene"]] ++ S.scenes[i].map Ent.w = pre ++ ((S.scenes.take (i + 1)).map sceneRows).flatten := by
          rw [List.take_succ_eq_append_getElem hi, List.map_append, List.flatten_append, List.append_assoc, List.append_assoc]
          congr 2
          rw [List.map_singleton, List.flatten_singleton]
          rfl
        rw [ee] at r6
        refine ⟨⟨_, rfl⟩, r6, ?_⟩
        rw [← ee, List.length_append, List.length_append, List.length_singleton, List.length_map]
        omega
    · rintro σ' H9 ⟨⟨y, rfl⟩, r5, bd⟩
      rw [lcs, List.take_length] at r5 bd
      have hrows : pre ++ (S.scenes.map sceneRows).flatten ++ someLine "list" S.order = rows S := by
        rw [← hpre]
        unfold rows
        show _ ++ (someLine "hands" S.hands ++ someLine "safes" S.safes) ++ _ ++ _ = _
        simp only [List.append_assoc, List.cons_append, List.nil_append]
      generalize pre ++ (S.scenes.map sceneRows).flatten = pre2 at r5 bd hrows
      obtain ⟨s9, rs, eR, dR⟩ := r5
      have lrs := dpAll_len dR
      rw [List.length_map] at lrs
      refine ⟨_, rfl, size0, fun p5 np5 => ⟨dInts S.order, .tuple [], ints_dp ((same_fix (s9.trans (same_new np5))).seqT Ab.ord), .tup (.of upd_same) .nil, shaped_ints _, shaped_nil, _, rfl, ?_⟩⟩
      have s95 := same_new (o := .tup []) np5
      refine andC (fun hc => ?_) (fun hc => ?_)
      rw [eqv_ints_nil] at hc
      have hne : ¬ S.order = [] := fun e => by
        rw [decide_eq_true e] at hc
        cases hc
      refine ⟨_, rfl, .inl ⟨rfl, _, .of (s95 _ _ eR)⟩, size1, fun p6 np6 => ⟨_, rfl, cat_of (.of upd_same) ((same_fix ((s9.trans s95).trans (same_new np6))).seqT Ab.ord) (by simp) (by rw [List.length_map, List.length_singleton]; have := hV.ol; omega) fun b H7 s7 hb => ?_⟩⟩
      have s97 := (s95.trans (same_new np6)).trans s7
      refine ⟨R, rs, .ref b, rfl, rfl, s97 _ _ eR, small (by omega), ?_⟩
      have r7 := RowsAt.put nR (s9.trans s97) (s97 _ _ eR) (DpAll.fix (same_fix s97) _ _ dR) (more := [lineOf "list" S.order]) (acc := [.ref b]) (.cons (line_dp hb) .nil)
      rw [show [lineOf "list" S.order] = someLine "list" S.order by unfold someLine; rw [if_neg hne], hrows] at r7
      generalize upd H7 R (.lst (rs ++ [.ref b])) = H11 at r7 ⊢
      rotate_left 1
      rw [eqv_ints_nil] at hc
      have hem : S.order = [] := by
        apply Classical.byContradiction
        intro e
        rw [decide_eq_false e] at hc
        cases hc
      have r7 : RowsAt K Hb R (rows S) (upd H9 p5 (.tup [])) := by
        have r := RowsAt.same (K := K) (H1 := Hb) (R := R) (rws := pre2) ⟨s9, rs, eR, dR⟩ s95
        rw [← hrows, hem]
        unfold someLine
        rw [if_pos rfl, List.append_nil]
        exact r
      generalize upd H9 p5 (.tup []) = H11 at r7 s95 ⊢
      rotate_left 1
      all_goals
        obtain ⟨s11, rz, eZ, dZ⟩ := r7
        have lz := dpAll_len dZ
        rw [List.length_map] at lz
        have lr := hV.rows_len
        refine ⟨⟨_, rfl⟩, _, rfl, R, rfl, ⟨_, .of eZ⟩, fun D nD => ?_⟩
        refine lc_vals (G := fun H => SqL K H R rz) walk_list (fun i => V.str ((((rows S).map rowT)[i]?).getD "")) nD (by omega) (fun H1 s1 => .of (s1 _ _ eZ)) ?_ ?_
        · rintro i x H12 H13 hi s12 ⟨rfl, ex⟩ Qe Qf qe
          obtain ⟨dd, ed, dx⟩ := dpAll_at (DpAll.fix (same_fix s12) _ _ dZ) ex
          have hi2 : i < (rows S).length := by omega
          rw [List.getElem?_map, List.getElem?_eq_getElem hi2] at ed
          obtain rfl := Option.some.inj ed
          obtain ⟨ra, rfl, hra⟩ := dp_ws dx
          rw [List.getElem?_map, List.getElem?_eq_getElem hi2] at qe
          exact ⟨rfl, ⟨_, rfl, ra, (rows S)[i], rfl, hra, hV.rowOk _ (List.getElem_mem hi2), fun H3 s3 => qe H3 s3⟩⟩
        · intro H12 s12 e12
          have el : (List.range rz.length).map (fun i => V.str ((((rows S).map rowT)[i]?).getD "")) = ((rows S).map rowT).map V.str := by
            refine List.ext_getElem (by simp [lz]) fun i h1 h2 => ?_
            rw [List.length_map, List.length_range] at h1
            have h3 : i < (rows S).length := by omega
            simp [h3]
          rw [el] at e12
          refine ⟨"\n", D, (rows S).map rowT, rfl, rfl, .inl (.of e12), ?_, q H12 (xb.trans (same_extN (s11.trans s12))) (Tb.ext (s11.trans s12))⟩
          have a1 := sumlen_le 90 ((rows S).map rowT) fun y hy => by
            obtain ⟨u, hu, rfl⟩ := List.mem_map.mp hy
            exact row_len (hV.rowOk u hu)
          rw [List.length_map] at a1 ⊢
          rw [show ("\n" : Str).length = 1 by decide +kernel]
          omega
theorem cal_show_text (T : Txt K mg) (TB : TBase base K mg) : C8.Cal P w K mg base 8 "show_text" (spShowText K) [] := (calK_show_text T TB).cal
end
end K33
/-! The class Lines: __init__, word, need, integers. -/
namespace K33
open PySem PySem.Spec PyProof.Rows L2
theorem ks : ¬ (("lines_so" : Str) = "at") := by decide +kernel
def flds (L : Addr) (k : Nat) : List (Str × V) := putF "at" (.int (k : Int)) (putF "lines_so" (.ref L) [])
theorem flds_eq (L : Addr) (k : Nat) : flds L k = ([("lines_so", V.ref L), ("at", V.int (k : Int))] : List (Str × V)) := by
  show (if ("lines_so" : Str) = "at" then [(("lines_so" : Str), V.int (k : Int))] else (("lines_so" : Str), V.ref L) :: putF "at" (V.int (k : Int)) []) = _
  rw [if_neg ks]
  rfl
theorem flds_ls (L : Addr) (k : Nat) : (flds L k).lookup ("lines_so" : Str) = some (.ref L) := by
  unfold flds
  rw [lookup_putF, if_neg ks, lookup_putF, if_pos rfl]
theorem flds_at (L : Addr) (k : Nat) : (flds L k).lookup ("at" : Str) = some (.int (k : Int)) := by
  unfold flds
  rw [lookup_putF, if_pos rfl]
theorem flds_no (L : Addr) (k : Nat) {m : Str} (h1 : ¬ m = "at") (h2 : ¬ m = "lines_so") : (flds L k).lookup m = none := by
  unfold flds
  rw [lookup_putF, if_neg h1, lookup_putF, if_neg h2]
  rfl
theorem flds_put (L : Addr) (k j : Nat) : putF "at" (.int (j : Int)) (flds L k) = flds L j := by
  rw [flds_eq, flds_eq]
  show (if ("lines_so" : Str) = "at" then _ else (("lines_so" : Str), V.ref L) :: (if ("at" : Str) = "at" then [(("at" : Str), V.int (j : Int))] else _)) = _
  rw [if_neg ks, if_pos rfl]
theorem flds_small (L : Addr) (k : Nat) : (flds L k).length < 1000 := by
  rw [flds_eq]
  show 2 < 1000
  decide
/-- the words of a row, as they stand in its list -/
def rowV (r : List W) : List V := (r.map W.t).map V.str
def TxtAt (H : Hp) (L : Addr) (rs : List (List W)) : Prop := ∃ ps : List Addr, H L = some (.lst (ps.map V.ref)) ∧ Paired (fun (q : Addr) (r : List W) => H q = some (.lst (rowV r))) ps rs
theorem TxtAt.fix {H H' : Hp} {L : Addr} {rs : List (List W)} (h : TxtAt H L rs) (f : Fix H H') : TxtAt H' L rs := by
  obtain ⟨ps, e, d⟩ := h
  exact ⟨ps, f _ _ e trivial, L2.Paired.mapP d fun q r e => f _ _ e trivial⟩
structure LinesAt (C : Addr) (H : Hp) (p L : Addr) (rs : List (List W)) (k : Nat) : Prop where
  ob : ∃ dx, H p = some (.ins C dx (flds L k))
  tx : TxtAt H L rs
theorem LinesAt.same {C : Addr} {H H' : Hp} {p L : Addr} {rs : List (List W)} {k : Nat} (h : LinesAt C H p L rs k) (s : Same H H') : LinesAt C H' p L rs k := by
  obtain ⟨⟨dx, e⟩, t⟩ := h
  exact ⟨⟨dx, s _ _ e⟩, t.fix (same_fix s)⟩
theorem paired_at {F : Addr → List W → Prop} : ∀ {ps : List Addr} {rs : List (List W)} {i : Nat} {r : List W}, Paired F ps rs → rs[i]? = some r → ∃ q, ps[i]? = some q ∧ F q r
  | _, _, _, _, .nil, e => by simp at e
  | _, _, 0, _, .cons a b, e => by
    have e : _ = _ := Option.some.inj e
    subst e
    exact ⟨_, rfl, a⟩
  | _, _, i + 1, r, .cons a b, e => paired_at (i := i) (r := r) b e
theorem TxtAt.row {H : Hp} {L : Addr} {rs : List (List W)} (h : TxtAt H L rs) : ∃ xs : List V, H L = some (.lst xs) ∧ xs.length = rs.length ∧ ∀ (i : Nat) (r : List W), rs[i]? = some r → ∃ q, xs[i]? = some (.ref q) ∧ H q = some (.lst (rowV r)) := by
  obtain ⟨ps, e, d⟩ := h
  refine ⟨ps.map V.ref, e, by rw [List.length_map, Paired.length d], fun i r hi => ?_⟩
  obtain ⟨q, e1, e2⟩ := paired_at d hi
  exact ⟨q, by rw [List.getElem?_map, e1]; rfl, e2⟩
/-- the word that stands ahead -/
def curW (rs : List (List W)) (k : Nat) : V := match rs[k]? with
  | some (u :: _) => .str u.t
  | _ => .non
def RsOk (rs : List (List W)) : Prop := rs ≠ [] ∧ rs.length ≤ 100 ∧ ∀ r ∈ rs, RowOk r
def spInit (C : Addr) : Sp := fun vs H Q _ => ∃ (p dx : Addr) (rs : List (List W)), vs = [.ref p, .str (Txt.join "\n" (rs.map rowT))] ∧ H p = some (.ins C dx []) ∧ RsOk rs ∧ ∀ L H', But p H H' → LinesAt C H' p L rs 0 → Q .non H'
def spWord (C : Addr) : Sp := fun vs H Q _ => ∃ (p L : Addr) (rs : List (List W)) (k : Nat), vs = [.ref p] ∧ LinesAt C H p L rs k ∧ RsOk rs ∧ Q (curW rs k) H
def spNeed : Sp := fun vs H Q _ => ∃ (p : Addr), vs = [.ref p, .bl true] ∧ Q .non H
def spInts (K : PySem.W.Frag) (C : Addr) : Sp := fun vs H Q _ => ∃ (p L : Addr) (rs : List (List W)) (k : Nat) (u : W) (ns : List Int) (m : Int), vs = [.ref p, .int m] ∧ LinesAt C H p L rs k ∧ rs[k]? = some (u :: ns.map W.i) ∧ m ≤ ns.length ∧ ns.length ≤ 10 ∧ (∀ n ∈ ns, n.natAbs ≤ 1000000) ∧
  ∀ t H', But p H H' → LinesAt C H' p L rs (k + 1) → SqT K H' t (ns.map V.int) → Q (.ref t) H'
abbrev N_init : List Str := ["self", "text", "own"]
abbrev N_ints : List Str := ["self", "least", "found", "word", "own"]
theorem sc_init : FnScope N_init ["self", "text"] (defScope s_Lines_init) := ⟨rfl, rfl, rfl, by decide +kernel, rfl, by decide +kernel, by decide +kernel⟩
theorem sc_word : FnScope ["self"] ["self"] (defScope s_Lines_word) := ⟨rfl, rfl, rfl, by decide +kernel, rfl, by decide +kernel, by decide +kernel⟩
theorem sc_need : FnScope ["self", "is_so"] ["self", "is_so"] (defScope s_Lines_need) := ⟨rfl, rfl, rfl, by decide +kernel, rfl, by decide +kernel, by decide +kernel⟩
theorem sc_ints : FnScope N_ints ["self", "least"] (defScope s_Lines_integers) := ⟨rfl, rfl, rfl, by decide +kernel, rfl, by decide +kernel, by decide +kernel⟩
theorem nl_len : ("\n" : Str).length = 1 := by decide +kernel
theorem sp_len : (" " : Str).length = 1 := by decide +kernel
section
variable {P : Program} {w : World} {K : PySem.W.Frag} {mg : Str → Option Value} {base : Heap}
abbrev LC (K : PySem.W.Frag) : Addr := He.ga K "Lines"
theorem mak_lines (T : Txt K mg) : C8.Mak P w K mg base 1 "Lines" (LC K) (spInit (LC K)) [] := by
  refine T.mak fn_Lines_init at_mkr at_Lines rfl rfl rfl sc_init (fun _ _ _ _ _ _ us hl => match us, hl with | [_, _], _ => rfl) (fun vs H Q E h => ?_) (fun f cdv A outer s H vs Q E hr h => ?_)
  · obtain ⟨p, dx, rs, rfl, _⟩ := h
    rfl
  · obtain ⟨p, dx, rs, rfl, hp, ⟨hne, h100, hR⟩, q⟩ := h
    refine ⟨_, pss_cons (ps_fld (pv 0) (pe_lc (own := [("own", 2)]) (g := gName 2) (tt := tYes) rfl sc_init.nd (pi_list (pe_split (pv 1) (C8.pe_gc (by rfl) T.LINE))) (blkOk_by (N := N_init) (sc := defScope s_Lines_init) (by decide +kernel))
      (fun _ _ _ _ _ => pg_name (i := 2) sc_init.nd rfl (.inl rfl)) (fun _ _ _ _ _ => pts_nil) (fun _ _ _ _ _ => pe_split (pv 2) (C8.pe_gc (by rfl) T.BLANK))) rfl) (pss_one (ps_fld (pv 0) pe_int rfl)), ?_⟩
    have tl := text_len hR
    have h91 : rs.length * 91 ≤ 100 * 91 := Nat.mul_le_mul h100 (Nat.le_refl _)
    have sb := sizeBig
    refine ⟨_, rfl, ⟨_, rfl⟩, _, _, rfl, rfl, by rw [nl_len]; rfl, by omega, fun p1 np1 => ?_⟩
    rw [text_split hne hR]
    refine ⟨p1, rfl, ⟨_, .of upd_same⟩, fun D nD => ?_⟩
    have s1 := same_new (o := .lst ((rs.map rowT).map V.str)) np1
    have e1 : SqL K (upd H p1 (.lst ((rs.map rowT).map V.str))) p1 ((rs.map rowT).map V.str) := .of upd_same
    generalize upd H p1 (.lst ((rs.map rowT).map V.str)) = H1 at s1 e1 nD ⊢
    refine lc_lists (G := fun H => SqL K H p1 ((rs.map rowT).map V.str)) walk_list (rs.map rowV) (by rw [List.length_map, List.length_map, List.length_map]) nD (by rw [List.length_map, List.length_map]; omega) (fun H2 s2 => (same_fix s2).seqL e1) ?_ ?_
    · rintro i x l H2 H3 hi el s2 ⟨rfl, ex⟩ Qe Qf qe
      have hi2 : i < rs.length := by
        rw [List.length_map, List.length_map] at hi
        exact hi
      rw [List.getElem?_map, List.getElem?_map, List.getElem?_eq_getElem hi2] at ex
      rw [List.getElem?_map, List.getElem?_eq_getElem hi2] at el
      obtain rfl := Option.some.inj ex
      obtain rfl := Option.some.inj el
      have hr2 := hR rs[i] (List.getElem_mem hi2)
      have l90 := row_len hr2
      refine ⟨rfl, ⟨_, rfl, ⟨_, rfl⟩, rowT rs[i], " ", rfl, rfl, by rw [sp_len]; rfl, by omega, fun p2 np2 => ?_⟩⟩
      rw [row_split hr2]
      exact qe p2 _ (same_new np2) np2 upd_same
    · intro H2 ps s2 eD hps
      have s12 := s1.trans s2
      have hp2 := s12 _ _ hp
      have n1 : p ≠ D := ne_of hp2 eD (by intro z; cases z)
      refine ⟨_, rfl, p, _, dx, [], rfl, hp2, T.cls, T.no_lines_so, (by show 0 < 1000; decide), ?_⟩
      refine ⟨_, rfl, p, _, dx, _, rfl, upd_same, T.cls, T.no_at, (by show 1 < 1000; decide), ?_⟩
      refine q D _ (fun b o hb e => by rw [upd_ne hb, upd_ne hb]; exact s12 _ _ e) ⟨⟨dx, upd_same⟩, ps, ?_, ?_⟩
      · rw [upd_ne n1.symm, upd_ne n1.symm]
        exact eD
      · have key : ∀ {ps : List Addr} {rs : List (List W)}, Paired (fun (q : Addr) (l : List V) => H1 q = none ∧ H2 q = some (.lst l)) ps (rs.map rowV) → Paired (fun (q : Addr) (r : List W) => (upd (upd H2 p (.ins (LC K) dx (putF "lines_so" (.ref D) []))) p (.ins (LC K) dx (putF "at" (.int 0) (putF "lines_so" (.ref D) [])))) q = some (.lst (rowV r))) ps rs := by
          intro ps
          induction ps with
          | nil =>
            intro rs h
            cases rs with
            | nil => exact .nil
            | cons r rs => cases h
          | cons a ps ih =>
            intro rs h
            cases rs with
            | nil => cases h
            | cons r rs =>
              cases h with
              | cons h1 h2 =>
                have na : a ≠ p := (ne_of hp2 h1.2 (by intro z; cases z)).symm
                exact .cons (by rw [upd_ne na, upd_ne na]; exact h1.2) (ih h2)
        exact key hps
theorem met_word (T : Txt K mg) : C8.Met P w K mg base 1 (LC K) "word" (spWord (LC K)) [] := by
  refine T.met fn_Lines_word at_Lines_word at_cls rfl rfl rfl sc_word (fun _ _ _ _ _ _ us hl => match us, hl with | [_], _ => rfl) (fun vs H Q E h => ?_) (fun f cdv A outer s H vs Q E hr h => ?_)
  · obtain ⟨p, L, rs, k, rfl, _⟩ := h
    rfl
  · obtain ⟨p, L, rs, k, rfl, ⟨⟨dx, ho⟩, tx⟩, hok, q⟩ := h
    refine ⟨_, pss_one (ps_ret (pe_ifExp (pt_cmpR op_lt (pe_fld (pv 0) rfl) (pe_callB call_len_seq (by rfl) T.m_len bt_len (pa_cons (pe_fld (pv 0) rfl) pa_nil)) (nomark _)) (pe_ix ix_list (pe_ix ix_list (pe_fld (pv 0) rfl) (pe_fld (pv 0) rfl) (fun _ _ => rfl)) pe_int (fun _ _ => rfl)) pe_non)), ?_⟩
    obtain ⟨xs, eL, lx, row⟩ := tx.row
    refine ⟨_, rfl, p, _, dx, _, _, rfl, ho, T.cls, T.no_at, flds_at _ _, _, rfl, p, _, dx, _, _, rfl, ho, T.cls, T.no_lines_so, flds_ls _ _, L, xs, rfl, .inl (.of eL), _, _, rfl, rfl, _, rfl, andC (fun hc => ?_) (fun hc => ?_)⟩
    · have hk : k < rs.length := by
        have := of_decide_eq_true hc
        omega
      have ek := List.getElem?_eq_getElem hk
      obtain ⟨r, er, hr2⟩ := row k _ ek
      have rok := hok.2.2 rs[k] (List.getElem_mem hk)
      unfold curW at q
      rw [ek] at q
      cases hc2 : rs[k] with
      | nil => exact absurd hc2 rok.1
      | cons u us =>
        rw [hc2] at q hr2
        exact ⟨_, rfl, p, _, dx, _, _, rfl, ho, T.cls, T.no_lines_so, flds_ls _ _, _, rfl, p, _, dx, _, _, rfl, ho, T.cls, T.no_at, flds_at _ _, L, xs, _, _, rfl, rfl, .of eL, atI_nat er, r, _, 0, _, rfl, rfl, .of hr2, atI_nat (j := 0) rfl, q⟩
    · have hk : ¬ k < rs.length := by
        have := of_decide_eq_false hc
        omega
      unfold curW at q
      rw [List.getElem?_eq_none (by omega)] at q
      exact q
theorem met_need (T : Txt K mg) : C8.Met P w K mg base 1 (LC K) "need" spNeed [] := by
  refine T.met fn_Lines_need at_Lines_need at_cls rfl rfl rfl sc_need (fun _ _ _ _ _ _ us hl => match us, hl with | [_, _], _ => rfl) (fun vs H Q E h => ?_) (fun f cdv A outer s H vs Q E hr h => ?_)
  · obtain ⟨p, rfl, _⟩ := h
    rfl
  · obtain ⟨p, rfl, q⟩ := h
    refine ⟨_, pss_one (ps_if (pt_not (pt_val (pv 1))) pss_never pss_nil), ?_⟩
    exact ⟨_, rfl, _, rfl, iteF q⟩
end
end K33
/-! The class Lines: integers, some, one. -/
namespace K33
open PySem PySem.Spec PyProof.Rows L2
theorem units65 {k : Nat} {A : Around} (r : Room k A) : A.units + 65 < cLine := by
  have := r.un
  omega
theorem lay_lst {ds : List PyData} (h : ∀ d ∈ ds, PyData.canLay0 d = true) : PyData.canLay0 (.list ds) = true := by
  have := lay_tup h
  unfold PyData.canLay0 at this ⊢
  exact this
theorem dep_lst {ds : List PyData} {k : Nat} (h : ∀ d ∈ ds, PyData.depth d ≤ k) : PyData.depth (.list ds) ≤ k + 1 := by
  have := dep_tup h
  unfold PyData.depth at this ⊢
  exact this
def oneD (n : Int) : PyData := .list [.int n]
theorem lay_one (n : Int) : PyData.canLay0 (oneD n) = true := lay_lst fun d hd => by
  rw [List.mem_singleton.mp hd]
  exact lay_int n
theorem dep_one (n : Int) : PyData.depth (oneD n) ≤ 1 := dep_lst (k := 0) fun d hd => by
  rw [List.mem_singleton.mp hd]
  exact Nat.le_of_eq (dep_int n)
theorem shaped_ones (ns : List Int) : SeqAt.shaped (.list (ns.map oneD)) = true := shaped_by (k := 2) (lay_lst fun d hd => by
  obtain ⟨n, _, rfl⟩ := List.mem_map.mp hd
  exact lay_one n) (dep_lst (k := 1) fun d hd => by
  obtain ⟨n, _, rfl⟩ := List.mem_map.mp hd
  exact dep_one n) (by decide)
theorem shaped_lnil : SeqAt.shaped (.list []) = true := by decide +kernel
theorem not_nil_in (ns : List Int) : (!(ns.map oneD).any fun z => PyData.eqv z (.list [])) = true := by
  have e : (ns.map oneD).any (fun z => PyData.eqv z (.list [])) = false := by
    rw [List.any_eq_false]
    intro z hz
    obtain ⟨n, _, rfl⟩ := List.mem_map.mp hz
    unfold oneD PyData.eqv PyData.eqvAll
    decide
  rw [e]
  rfl
theorem ones_dp {K : PySem.W.Frag} {H1 H : Hp} : ∀ {ps : List Addr} {ns : List Int}, Paired (fun (q : Addr) (l : List V) => H1 q = none ∧ H q = some (.lst l)) ps (ns.map fun n => [V.int n]) → DpAll K H (ps.map V.ref) (ns.map oneD)
  | [], [], _ => .nil
  | [], _ :: _, h => nomatch h
  | _ :: _, [], h => nomatch h
  | _ :: _, n :: _, .cons a b => .cons (.lst (.of a.2) (.cons (.int n) .nil)) (ones_dp b)
theorem ones_at {H1 H : Hp} : ∀ {ps : List Addr} {ns : List Int} {i : Nat} {n : Int}, Paired (fun (q : Addr) (l : List V) => H1 q = none ∧ H q = some (.lst l)) ps (ns.map fun n => [V.int n]) → ns[i]? = some n → ∃ q, (ps.map V.ref)[i]? = some (.ref q) ∧ H q = some (.lst [.int n])
  | [], [], _, _, _, e => by simp at e
  | [], _ :: _, _, _, h, _ => nomatch h
  | _ :: _, [], _, _, h, _ => nomatch h
  | _ :: _, _ :: _, 0, _, .cons a b, e => by
    obtain rfl := Option.some.inj e
    exact ⟨_, rfl, a.2⟩
  | _ :: _, _ :: _, i + 1, n, .cons a b, e => ones_at (i := i) (n := n) b e
/-- l[1:] -/
theorem ltail_of {K : PySem.W.Frag} {σ : L2.St} {H : Hp} {a : Addr} {x : V} {xs : List V} {Q : VK} (h : SqL K H a (x :: xs)) (q : ∀ b, H b = none → Q (.ref b) (upd H b (.lst xs))) : tNoPart σ H fun u H3 => rSlL K (.ref a) (some 1) u H3 Q := by
  refine ⟨a, x :: xs, rfl, h, fun p np => ?_⟩
  have e : cutV (x :: xs) (some 1) none = xs := by
    have e1 : HT.sIx (x :: xs).length 0 (some 1) = min 1 (x :: xs).length := HT.sIx_nat _ _ 1
    unfold cutV
    rw [e1, HT.sIx_none, List.length_cons, Nat.min_eq_left (by omega), List.drop_one, List.tail_cons, List.take_of_length_le (by omega)]
  rw [e]
  exact q p np
theorem rowV_cons (u : W) (ns : List Int) : rowV (u :: ns.map W.i) = V.str u.t :: ns.map fun n => V.str (intS n) := by
  unfold rowV
  rw [List.map_cons, List.map_cons, List.map_map, List.map_map]
  rfl
section
variable {P : Program} {w : World} {K : PySem.W.Frag} {mg : Str → Option Value} {base : Heap}
theorem met_ints (T : Txt K mg) : C8.Met P w K mg base 2 (LC K) "integers" (spInts K (LC K)) [] := by
  refine T.met fn_Lines_integers at_Lines_integers at_cls rfl rfl rfl sc_ints (fun _ _ _ _ _ _ us hl => match us, hl with | [_, _], _ => rfl) (fun vs H Q E h => ?_) (fun f cdv A outer s H vs Q E hr h => ?_)
  · obtain ⟨p, L, rs, k, u, ns, m, rfl, _⟩ := h
    rfl
  · obtain ⟨p, L, rs, k, u, ns, m, rfl, ⟨⟨dx, ho⟩, tx⟩, hk, hm, h10, hb, q⟩ := h
    refine ⟨_, pss_cons (ps_setLc (i := 2) (own := [("word", 3)]) (g := gName 3) (tt := tYes) (te := tCall (spIntIn K) [] C8.E0 (tCons (tVar 3) (tCons (tC (.int 7)) tNil))) rfl sc_ints.nd rfl (by rfl) (by rfl)
        (pi_list (pe_slice sl_list (pe_ix ix_list (pe_fld (pv 0) rfl) (pe_fld (pv 0) rfl) (fun _ _ => rfl)) (po_some pe_int) po_none)) (blkOk_by (N := N_ints) (sc := defScope s_Lines_integers) (by decide +kernel))
        (fun _ _ _ _ _ => pg_name (i := 3) sc_ints.nd rfl (.inl rfl)) (fun _ _ _ _ _ => pts_nil) (fun _ _ _ _ _ => C8.pe_c (cal_integer_in T) hr (by decide) (by rfl) (pa_cons (pv 3) (pa_cons (C8.pe_gc (by rfl) T.MOST_DIGITS) pa_nil))))
      (pss_cons (ps_expr (C8.pe_mt (met_need T) hr (by decide) (pv 0) (pa_cons (pe_and (pe_cmpR op_ge (pe_callB call_len_seq (by rfl) T.m_len bt_len (pa_cons (pv 2) pa_nil)) (pv 1) (nomark _)) (pe_one (pe_cmpR (op_notInD (units65 hr)) (pe_lst pa_nil) (pv 2) (by rfl)))) pa_nil)))
      (pss_cons (ps_fldaug (pv 0) pe_int in_add)
      (pss_one (ps_ret (pe_tupleOf (by rfl) T.m_tuple (pe_lc (own := [("own", 4)]) (g := gName 4) (tt := tYes) (te := tOp (rIxL K) (tVar 4) (tC (.int 0))) rfl sc_ints.nd (pi_list (pv 2)) (blkOk_by (N := N_ints) (sc := defScope s_Lines_integers) (by decide +kernel))
        (fun _ _ _ _ _ => pg_name (i := 4) sc_ints.nd rfl (.inl rfl)) (fun _ _ _ _ _ => pts_nil) (fun _ _ _ _ _ => pe_ix ix_list (pv 4) pe_int (fun _ _ => rfl)))))))), ?_⟩
    obtain ⟨xs, eL, lx, row⟩ := tx.row
    obtain ⟨r, er, hr2⟩ := row k _ hk
    rw [rowV_cons] at hr2
    refine ⟨_, rfl, p, _, dx, _, _, rfl, ho, T.cls, T.no_lines_so, flds_ls _ _, _, rfl, p, _, dx, _, _, rfl, ho, T.cls, T.no_at, flds_at _ _, L, xs, _, _, rfl, rfl, .of eL, atI_nat er, 1, rfl, ltail_of (.of hr2) fun b nb => ⟨b, rfl, ⟨_, .of upd_same⟩, fun D nD => ?_⟩⟩
    have s1 := same_new (o := .lst (ns.map fun n => V.str (intS n))) nb
    have e1 : SqL K (upd H b (.lst (ns.map fun n => V.str (intS n)))) b (ns.map fun n => V.str (intS n)) := .of upd_same
    generalize upd H b (.lst (ns.map fun n => V.str (intS n))) = H1 at s1 e1 nD ⊢
    refine lc_lists (G := fun H => SqL K H b (ns.map fun n => V.str (intS n))) walk_list (ns.map fun n => [V.int n]) (by rw [List.length_map, List.length_map]) nD (by rw [List.length_map]; omega) (fun H2 s2 => (same_fix s2).seqL e1) ?_ ?_
    · rintro i x l H2 H3 hi el s2 ⟨rfl, ex⟩ Qe Qf qe
      have hi2 : i < ns.length := by
        rw [List.length_map] at hi
        exact hi
      rw [List.getElem?_map, List.getElem?_eq_getElem hi2] at ex
      rw [List.getElem?_map, List.getElem?_eq_getElem hi2] at el
      obtain rfl := Option.some.inj ex
      obtain rfl := Option.some.inj el
      exact ⟨rfl, ⟨_, rfl, ns[i], rfl, hb _ (List.getElem_mem hi2), fun p2 H4 s4 np2 e4 => qe p2 H4 s4 np2 e4⟩⟩
    · intro H2 ps s2 eD hps
      have s12 := s1.trans s2
      have dO := ones_dp (K := K) hps
      have lps : ps.length = ns.length := by rw [Paired.length hps, List.length_map]
      refine ⟨_, rfl, p, dx, _, rfl, s12 _ _ ho, flds_no _ _ (by decide +kernel) (by decide +kernel), ?_⟩
      refine ⟨_, rfl, D, _, rfl, .inl (.of eD), _, rfl, _, _, rfl, rfl, _, rfl, ?_⟩
      refine ifT (decide_eq_true (by rw [List.length_map, lps]; exact hm)) ?_
      refine ⟨size0, fun p3 np3 => ?_⟩
      have s3 := same_new (o := .lst []) np3
      refine ⟨_, rfl, .list [], ns.map oneD, .lst (.of upd_same) .nil, .lst (.of (s3 _ _ eD)) (DpAll.fix (same_fix s3) _ _ dO), shaped_lnil, shaped_ones ns, ?_⟩
      rw [not_nil_in]
      refine ⟨p, rfl, ?_⟩
      have s13 := s12.trans s3
      refine ⟨_, rfl, p, _, dx, _, _, rfl, s13 _ _ ho, T.cls, T.no_at, flds_at _ _, _, _, rfl, rfl, dx, _, s13 _ _ ho, flds_small _ _, ?_⟩
      have e5 : putF "at" (V.int ((k : Int) + 1)) (flds L k) = flds L (k + 1) := flds_put L k (k + 1)
      rw [e5]
      have nD2 : D ≠ p := ne_of (s3 _ _ eD) (s13 _ _ ho) (by intro z; cases z)
      have b5 : But p H (upd (upd H2 p3 (.lst [])) p (.ins (LC K) dx (flds L (k + 1)))) := fun b o hb e => by
        rw [upd_ne hb]
        exact s13 _ _ e
      have eD5 : (upd (upd H2 p3 (.lst [])) p (.ins (LC K) dx (flds L (k + 1)))) D = some (.lst (ps.map V.ref)) := by
        rw [upd_ne nD2]
        exact s3 _ _ eD
      have hps5 : ∀ (i : Nat) (n : Int), ns[i]? = some n → ∃ q, (ps.map V.ref)[i]? = some (.ref q) ∧ (upd (upd H2 p3 (.lst [])) p (.ins (LC K) dx (flds L (k + 1)))) q = some (.lst [.int n]) := fun i n hi => by
        obtain ⟨q, e1, e2⟩ := ones_at hps hi
        refine ⟨q, e1, ?_⟩
        rw [upd_ne (ne_of (s3 _ _ e2) (s13 _ _ ho) (by intro z; cases z))]
        exact s3 _ _ e2
      have l5 : LinesAt (LC K) (upd (upd H2 p3 (.lst [])) p (.ins (LC K) dx (flds L (k + 1)))) p L rs (k + 1) := ⟨⟨dx, upd_same⟩, tx.fix (b5.fix ho (fun z => z))⟩
      generalize upd (upd H2 p3 (.lst [])) p (.ins (LC K) dx (flds L (k + 1))) = H5 at b5 eD5 hps5 l5 ⊢
      refine ⟨_, rfl, D, rfl, ⟨_, .of eD5⟩, fun D3 nD3 => ?_⟩
      refine lc_vals (G := fun H => SqL K H D (ps.map V.ref)) walk_list (fun i => ((ns.map V.int)[i]?).getD .non) nD3 (by rw [List.length_map]; omega) (fun H6 s6 => .of (s6 _ _ eD5)) ?_ ?_
      · rintro i x H6 H7 hi s6 ⟨rfl, ex⟩ Qe Qf qe
        have hi2 : i < ns.length := by
          rw [List.length_map] at hi
          omega
        obtain ⟨q2, e6, e7⟩ := hps5 i ns[i] (List.getElem?_eq_getElem hi2)
        rw [e6] at ex
        obtain rfl := Option.some.inj ex
        rw [List.getElem?_map, List.getElem?_eq_getElem hi2] at qe
        exact ⟨rfl, ⟨_, rfl, q2, _, 0, _, rfl, rfl, .of (s6 _ _ e7), atI_nat (j := 0) rfl, qe _ fun _ _ z => z⟩⟩
      · intro H6 s6 e6
        have el : (List.range (ps.map V.ref).length).map (fun i => ((ns.map V.int)[i]?).getD .non) = ns.map V.int := by
          refine List.ext_getElem (by simp [lps]) fun i h1 h2 => ?_
          rw [List.length_map] at h2
          simp [h2]
        rw [el] at e6
        refine .inl ⟨D3, _, rfl, .of e6, fun t nt => ?_⟩
        have s7 := s6.trans (same_new (o := .tup (ns.map V.int)) nt)
        exact q t _ (b5.trans (same_but s7)) (l5.same s7) (.of upd_same)
end
end K33
/-! The class Lines: some, one; entry_in, scene_in. -/
namespace K33
open PySem PySem.Spec PyProof.Rows L2
theorem curW_line {rs : List (List W)} {k : Nat} {x : Str} {ns : List Int} (h : rs[k]? = some (lineOf x ns)) : curW rs k = .str x := by
  unfold curW
  rw [h]
  rfl
theorem curW_scal (rs : List (List W)) (k : Nat) (x : Str) : scal (curW rs k) (.str x) = true := by
  unfold curW
  split <;> rfl
theorem curW_flat (rs : List (List W)) (k : Nat) : flatV (curW rs k) = true := by
  unfold curW
  split <;> rfl
def spSomeL (K : PySem.W.Frag) (C : Addr) : Sp := fun vs H Q _ => ∃ (p L : Addr) (rs : List (List W)) (k : Nat) (x : Str) (m : Int) (Ls : List (List Int)), vs = [.ref p, .str x, .int m] ∧ LinesAt C H p L rs k ∧ RsOk rs ∧ (∀ (i : Nat) (l : List Int), Ls[i]? = some l → rs[k + i]? = some (lineOf x l)) ∧ curW rs (k + Ls.length) ≠ .str x ∧
  (∀ l ∈ Ls, m ≤ l.length ∧ l.length ≤ 10 ∧ ∀ n ∈ l, n.natAbs ≤ 1000000) ∧ Ls.length ≤ 100 ∧ ∀ t H', But p H H' → LinesAt C H' p L rs (k + Ls.length) → Dp K H' (.ref t) (.tuple (Ls.map dInts)) → Q (.ref t) H'
def spOneL (K : PySem.W.Frag) (C : Addr) : Sp := fun vs H Q _ => ∃ (p L : Addr) (rs : List (List W)) (k : Nat) (x : Str) (ns : List Int), vs = [.ref p, .str x] ∧ LinesAt C H p L rs k ∧ RsOk rs ∧ (ns = [] → curW rs k ≠ .str x) ∧ (ns ≠ [] → rs[k]? = some (lineOf x ns)) ∧
  ns.length ≤ 10 ∧ (∀ n ∈ ns, n.natAbs ≤ 1000000) ∧ ∀ t H', But p H H' → LinesAt C H' p L rs (k + (someLine x ns).length) → SqT K H' t (ns.map V.int) → Q (.ref t) H'
abbrev N_some : List Str := ["self", "word", "least", "found"]
theorem sc_someL : FnScope N_some ["self", "word", "least"] (defScope s_Lines_some) := ⟨rfl, rfl, rfl, by decide +kernel, rfl, by decide +kernel, by decide +kernel⟩
theorem sc_oneL : FnScope ["self", "word"] ["self", "word"] (defScope s_Lines_one) := ⟨rfl, rfl, rfl, by decide +kernel, rfl, by decide +kernel, by decide +kernel⟩
theorem tupOnly_ints (ns : List Int) : tupOnly (dInts ns) = true := by
  unfold dInts
  rw [tupOnly, tupOnlyAll_iff]
  intro d hd
  obtain ⟨u, _, rfl⟩ := List.mem_map.mp hd
  unfold tupOnly
  rfl
theorem tupOnly_lines (Ls : List (List Int)) : tupOnlyAll (Ls.map dInts) = true := tupOnlyAll_iff.mpr fun d hd => by
  obtain ⟨u, _, rfl⟩ := List.mem_map.mp hd
  exact tupOnly_ints u
theorem LinesAt.fixB {C : Addr} {H H' : Hp} {p L : Addr} {rs : List (List W)} {k : Nat} (h : LinesAt C H p L rs k) (b : But p H H') : Fix H H' := by
  obtain ⟨⟨dx, e⟩, _⟩ := h
  exact b.fix e fun z => z
section
variable {P : Program} {w : World} {K : PySem.W.Frag} {mg : Str → Option Value} {base : Heap}
theorem met_someL (T : Txt K mg) : C8.Met P w K mg base 3 (LC K) "some" (spSomeL K (LC K)) [] := by
  refine T.met fn_Lines_some at_Lines_some at_cls rfl rfl rfl sc_someL (fun _ _ _ _ _ _ us hl => match us, hl with | [_, _, _], _ => rfl) (fun vs H Q E h => ?_) (fun f cdv A outer s H vs Q E hr h => ?_)
  · obtain ⟨p, L, rs, k, x, m, Ls, rfl, _⟩ := h
    rfl
  · obtain ⟨p, L, rs, k, x, m, Ls, rfl, hLA, hok, hrows, hend, hLs, h100, q⟩ := h
    refine ⟨_, pss_cons (ps_set (i := 3) sc_someL.nd rfl (Or.inl rfl) (pe_lst pa_nil))
      (pss_cons (ps_while PassesOwn.never (pt_cmpR op_eq (C8.pe_mt0 (met_word T) hr (by decide) (pv 0)) (pv 1) (nomark _))
        (pss_one (ps_expr (pe_bm PySem.F.plainAttrs_list PySem.F.slot_list_append PySem.F.type_list_append mt_append (pv 3) (pa_cons (C8.pe_mt (met_ints T) hr (by decide) (pv 0) (pa_cons (pv 2) pa_nil)) pa_nil)))))
      (pss_one (ps_ret (pe_tupleOf (by rfl) T.m_tuple (pv 3))))), ?_⟩
    refine ⟨size0, fun F nF => ?_⟩
    have s0 := same_new (o := .lst []) nF
    refine ⟨fun j σ' H' => ∃ i acc, i + j = Ls.length ∧ σ' = [some (.ref p), some (.str x), some (.int m), some (.ref F)] ∧ But p H H' ∧ LinesAt (LC K) H' p L rs (k + i) ∧ H' F = some (.lst acc) ∧ DpAll K H' acc ((Ls.take i).map dInts), ⟨Ls.length, 0, [], by omega, rfl, same_but s0, hLA.same s0, upd_same, .nil⟩, ?_⟩
    rintro j σ' H' ⟨i, acc, hij, rfl, b1, la, eF, dA⟩
    obtain ⟨⟨dx, ho⟩, tx⟩ := id la
    have nFp : F ≠ p := ne_of eF ho (by intro z; cases z)
    refine ⟨_, rfl, p, dx, _, rfl, ho, flds_no _ _ (by decide +kernel) (by decide +kernel), p, L, rs, k + i, rfl, la, hok, _, rfl, curW_scal _ _ _, _, rfl, andC (fun hc => ?_) (fun hc => ?_)⟩
    · have hi : i < Ls.length := by
        apply Classical.byContradiction
        intro h0
        rw [show k + i = k + Ls.length by omega] at hc
        exact hend (of_decide_eq_true hc)
      have hrow := hrows i Ls[i] (List.getElem?_eq_getElem hi)
      obtain ⟨c1, c2, c3⟩ := hLs Ls[i] (List.getElem_mem hi)
      have lacc := dpAll_len dA
      rw [List.length_map, List.length_take] at lacc
      refine ⟨fun σ2 H2 => ∃ acc, σ2 = [some (.ref p), some (.str x), some (.int m), some (.ref F)] ∧ But p H H2 ∧ LinesAt (LC K) H2 p L rs (k + (i + 1)) ∧ H2 F = some (.lst acc) ∧ DpAll K H2 acc ((Ls.take (i + 1)).map dInts), fun σ2 H2 ⟨acc2, z1, z2, z3, z4, z5⟩ => ⟨j - 1, by omega, i + 1, acc2, by omega, z1, z2, z3, z4, z5⟩, ?_⟩
      refine ⟨_, rfl, .inl ⟨rfl, _, .of eF⟩, _, rfl, p, dx, _, rfl, ho, flds_no _ _ (by decide +kernel) (by decide +kernel), _, rfl, p, L, rs, k + i, .s x, Ls[i], m, rfl, la, hrow, c1, c2, c3, fun t H3 b3 l3 ht => ?_⟩
      have e3 := b3 _ _ nFp eF
      have f3 := la.fixB b3
      refine ⟨F, acc, _, rfl, rfl, e3, small (by omega), acc ++ [.ref t], rfl, fun b o hb e => ?_, ?_, upd_same, ?_⟩
      · rw [upd_ne (ne_of_none e nF)]
        exact b3 b o hb (b1 b o hb e)
      · obtain ⟨⟨dx3, ho3⟩, tx3⟩ := l3
        refine ⟨⟨dx3, by rw [upd_ne nFp.symm]; exact ho3⟩, ?_⟩
        obtain ⟨ps, g1, g2⟩ := tx
        have tx0 : TxtAt (upd H3 F (.lst (acc ++ [.ref t]))) L rs := by
          have hb : TxtAt H L rs := hLA.tx
          exact hb.fix (fun b o e hs => by
            rw [upd_ne (ne_of_none e nF)]
            obtain ⟨⟨dx0, ho0⟩, _⟩ := hLA
            have nb : b ≠ p := fun z => by
              rw [z, ho0] at e
              cases e
              exact hs
            exact b3 b o nb (b1 b o nb e))
        exact tx0
      · rw [List.take_succ_eq_append_getElem hi, List.map_append]
        refine dpAll_app (DpAll.fixT (fixT_lst e3) _ _ (tupOnly_lines _) (DpAll.fix f3 _ _ dA)) (.cons (ints_dp ((fixT_lst e3).seqT ht)) .nil)
    · have hi : i = Ls.length := by
        apply Classical.byContradiction
        intro h0
        have hi : i < Ls.length := by omega
        have hrow := hrows i Ls[i] (List.getElem?_eq_getElem hi)
        rw [curW_line hrow] at hc
        exact of_decide_eq_false hc rfl
      subst hi
      rw [List.take_length] at dA
      refine ⟨_, rfl, .inl ⟨F, acc, rfl, .of eF, fun t nt => ?_⟩⟩
      have s5 := same_new (o := .tup acc) nt
      exact q t _ (b1.trans (same_but s5)) (la.same s5) (.tup (.of upd_same) (DpAll.fix (same_fix s5) _ _ dA))
theorem met_oneL (T : Txt K mg) : C8.Met P w K mg base 3 (LC K) "one" (spOneL K (LC K)) [] := by
  refine T.met fn_Lines_one at_Lines_one at_cls rfl rfl rfl sc_oneL (fun _ _ _ _ _ _ us hl => match us, hl with | [_, _], _ => rfl) (fun vs H Q E h => ?_) (fun f cdv A outer s H vs Q E hr h => ?_)
  · obtain ⟨p, L, rs, k, x, ns, rfl, _⟩ := h
    rfl
  · obtain ⟨p, L, rs, k, x, ns, rfl, hLA, hok, hn, hs, h10, hb, q⟩ := h
    refine ⟨_, pss_one (ps_ret (pe_ifExp (pt_cmpR op_eq (C8.pe_mt0 (met_word T) hr (by decide) (pv 0)) (pv 1) (nomark _)) (C8.pe_mt (met_ints T) hr (by decide) (pv 0) (pa_cons pe_int pa_nil)) (pe_tup pa_nil))), ?_⟩
    obtain ⟨⟨dx, ho⟩, tx⟩ := id hLA
    refine ⟨_, rfl, p, dx, _, rfl, ho, flds_no _ _ (by decide +kernel) (by decide +kernel), p, L, rs, k, rfl, hLA, hok, _, rfl, curW_scal _ _ _, _, rfl, andC (fun hc => ?_) (fun hc => ?_)⟩
    · have hne : ns ≠ [] := fun e => hn e (of_decide_eq_true hc)
      have hl : (someLine x ns).length = 1 := by
        unfold someLine
        rw [if_neg hne]
        rfl
      rw [hl] at q
      have := List.length_pos_iff.mpr hne
      exact ⟨_, rfl, p, dx, _, rfl, ho, flds_no _ _ (by decide +kernel) (by decide +kernel), p, L, rs, k, .s x, ns, 1, rfl, hLA, hs hne, by omega, h10, hb, fun t H3 b3 l3 ht => q t H3 b3 l3 ht⟩
    · have hem : ns = [] := by
        apply Classical.byContradiction
        intro e
        rw [curW_line (hs e)] at hc
        exact of_decide_eq_false hc rfl
      subst hem
      refine ⟨size0, fun t nt => ?_⟩
      have s5 := same_new (o := .tup []) nt
      exact q t _ (same_but s5) (hLA.same s5) (.of upd_same)
end
end K33
/-! entry_in, scene_in. -/
namespace K33
open PySem PySem.Spec PyProof.Rows L2
def EntB (e : Ent) : Prop := e.line.natAbs ≤ 1000000 ∧ ∀ u ∈ e.deed.w, ∀ n, u = .i n → n.natAbs ≤ 1000000
def spEntry (K : PySem.W.Frag) : Sp := fun vs H Q _ => ∃ (a : Addr) (e : Ent), vs = [.ref a] ∧ SqL K H a (rowV e.w) ∧ EntB e ∧ ∀ t H', Same H H' → Dp K H' (.ref t) e.d → Q (.ref t) H'
def isPartW (v : V) : Bool := inV v [.str "fader", .str "mute"]
def spSceneIn (K : PySem.W.Frag) (C : Addr) : Sp := fun vs H Q _ => ∃ (p L : Addr) (rs : List (List W)) (k : Nat) (es : List Ent), vs = [.ref p] ∧ LinesAt C H p L rs k ∧ RsOk rs ∧ (∀ (i : Nat) (e : Ent), es[i]? = some e → rs[k + i]? = some e.w) ∧ isPartW (curW rs (k + es.length)) = false ∧
  (∀ e ∈ es, EntB e) ∧ es.length ≤ 12 ∧ ∀ t H', But p H H' → LinesAt C H' p L rs (k + es.length) → Dp K H' (.ref t) (scD es) → Q (.ref t) H'
abbrev N_entry : List Str := ["words", "line", "part", "word", "number"]
abbrev N_scin : List Str := ["lines", "found", "entry"]
theorem sc_entry_in : FnScope N_entry ["words"] (defScope s_entry_in) := ⟨rfl, rfl, rfl, by decide +kernel, rfl, by decide +kernel, by decide +kernel⟩
theorem sc_scene_in : FnScope N_scin ["lines"] (defScope s_scene_in) := ⟨rfl, rfl, rfl, by decide +kernel, rfl, by decide +kernel, by decide +kernel⟩
theorem eqv_one_nil (n : Int) : PyData.eqv (oneD n) (.list []) = false := by
  unfold oneD PyData.eqv PyData.eqvAll
  rfl
theorem eqv_nil_nil : PyData.eqv (.list []) (.list []) = true := by decide +kernel
theorem shaped_one (n : Int) : SeqAt.shaped (oneD n) = true := shaped_by (lay_one n) (dep_one n) (by decide)
theorem size3 : (3 : Nat) ≤ sizeLine := by decide
/-- the deed's number, where it has one -/
def Deed.num : Deed → Option Int
  | .to x => some x
  | .by_ x => some x
  | .turn => none
  | .kept => none
  | .as_ x => some x
theorem deed_w (d : Deed) : d.w = .s d.nm :: (match d.num with | some x => [.i x] | none => []) := by cases d <;> rfl
theorem rowV_ent (e : Ent) : rowV e.w = [.str (kindS e.mute), .str (intS e.line), .str e.deed.nm] ++ (match e.deed.num with | some x => [V.str (intS x)] | none => []) := by
  unfold rowV Ent.w
  rw [deed_w]
  cases e.deed.num <;> rfl
theorem in_kt (d : Deed) : inV (V.str d.nm) [.str "kept", .str "turn"] = decide (d.num = none) := by
  cases d with
  | to x => exact (show inV (V.str "to") [V.str "kept", V.str "turn"] = false by decide +kernel)
  | by_ x => exact (show inV (V.str "by") [V.str "kept", V.str "turn"] = false by decide +kernel)
  | as_ x => exact (show inV (V.str "as") [V.str "kept", V.str "turn"] = false by decide +kernel)
  | turn => exact (show inV (V.str "turn") [V.str "kept", V.str "turn"] = true by decide +kernel)
  | kept => exact (show inV (V.str "kept") [V.str "kept", V.str "turn"] = true by decide +kernel)
theorem in_tba {d : Deed} {x : Int} (h : d.num = some x) : inV (V.str d.nm) [.str "to", .str "by", .str "as"] = true := by
  cases d with
  | to x => exact (show inV (V.str "to") [V.str "to", V.str "by", V.str "as"] = true by decide +kernel)
  | by_ x => exact (show inV (V.str "by") [V.str "to", V.str "by", V.str "as"] = true by decide +kernel)
  | as_ x => exact (show inV (V.str "as") [V.str "to", V.str "by", V.str "as"] = true by decide +kernel)
  | turn => cases h
  | kept => cases h
section
variable {P : Program} {w : World} {K : PySem.W.Frag} {mg : Str → Option Value} {base : Heap}
theorem cal_entry_in (T : Txt K mg) : C8.Cal P w K mg base 2 "entry_in" (spEntry K) [] := by
  refine T.cal at_entry_in at_entry_in rfl rfl sc_entry_in (fun _ _ _ _ _ _ us hl => match us, hl with | [_], _ => rfl) (fun vs H Q E h => ?_) (fun f cdv A outer s H vs Q E hr h => ?_)
  · obtain ⟨a, e, rfl, _⟩ := h
    rfl
  · obtain ⟨a, e, rfl, hS, hB, q⟩ := h
    refine ⟨_, pss_cons (ps_set (i := 1) sc_entry_in.nd rfl (Or.inl rfl) (pe_ifExp (pt_cmpR op_gt (pe_callB call_len_seq (by rfl) T.m_len bt_len (pa_cons (pv 0) pa_nil)) pe_int (nomark _)) (C8.pe_c (cal_integer_in T) hr (by decide) (by rfl) (pa_cons (pe_ix ix_list (pv 0) pe_int (fun _ _ => rfl)) (pa_cons (C8.pe_gc (by rfl) T.MOST_DIGITS) pa_nil))) (pe_lst pa_nil)))
      (pss_cons (ps_if (pt_cmpR (op_eqD hr.units) (pv 1) (pe_lst pa_nil) (nomark _)) pss_never pss_nil)
      (pss_cons (ps_par (i := 2) (j := 3) rfl sc_entry_in.nd rfl rfl (by decide) (by rfl) (by rfl) (pa_cons (pe_tup (pa_cons (pe_ix ix_list (pv 0) pe_int (fun _ _ => rfl)) (pa_cons (pe_ix ix_list (pv 1) pe_int (fun _ _ => rfl)) pa_nil))) (pa_cons (pe_ix ix_list (pv 0) pe_int (fun _ _ => rfl)) pa_nil)) (by rfl))
      (pss_cons (ps_if (pt_cmpR op_in_seq (pv 3) (pe_tup (pa_cons (C8.pe_gc (by rfl) T.KEPT) (pa_cons (C8.pe_gc (by rfl) T.TURN) pa_nil))) (by rfl))
        (pss_one (ps_ret (pe_ifExp (pt_cmpR op_eq (pe_callB call_len_seq (by rfl) T.m_len bt_len (pa_cons (pv 0) pa_nil)) pe_int (nomark _)) (pe_tup (pa_cons (pv 2) (pa_cons (pe_tup (pa_cons (pv 3) pa_nil)) pa_nil))) pe_non))) pss_nil)
      (pss_cons (ps_set (i := 4) sc_entry_in.nd rfl (Or.inl rfl) (pe_ifExp (pt_cmpR op_eq (pe_callB call_len_seq (by rfl) T.m_len bt_len (pa_cons (pv 0) pa_nil)) pe_int (nomark _)) (C8.pe_c (cal_integer_in T) hr (by decide) (by rfl) (pa_cons (pe_ix ix_list (pv 0) pe_int (fun _ _ => rfl)) (pa_cons (C8.pe_gc (by rfl) T.MOST_DIGITS) pa_nil))) (pe_lst pa_nil)))
      (pss_one (ps_ret (pe_ifExp (PW.pt (pw_and (pt_cmpR op_in_seq (pv 3) (pe_tup (pa_cons (C8.pe_gc (by rfl) T.TO) (pa_cons (C8.pe_gc (by rfl) T.BY) (pa_cons (C8.pe_gc (by rfl) T.AS) pa_nil)))) (by rfl)) (pw_and1 (pt_cmpR (op_neD hr.units) (pv 4) (pe_lst pa_nil) (nomark _)))))
        (pe_tup (pa_cons (pv 2) (pa_cons (pe_tup (pa_cons (pv 3) (pa_cons (pe_ix ix_list (pv 4) pe_int (fun _ _ => rfl)) pa_nil))) pa_nil))) pe_non))))))), ?_⟩
    rw [rowV_ent] at hS
    have hlen : 2 < ([V.str (kindS e.mute), .str (intS e.line), .str e.deed.nm] ++ (match e.deed.num with | some x => [V.str (intS x)] | none => [])).length := by
      rw [List.length_append]
      exact Nat.lt_of_lt_of_le (by decide : 2 < 3) (Nat.le_add_right _ _)
    refine ⟨_, rfl, a, _, rfl, .inl hS, _, _, rfl, rfl, _, rfl, ifT (decide_eq_true (by omega)) ?_⟩
    refine ⟨_, rfl, a, _, 1, _, rfl, rfl, hS, atI_nat (j := 1) rfl, e.line, rfl, hB.1, fun ln H1 s1 nln eln => ?_⟩
    have hS1 := (same_fix s1).seqL hS
    refine ⟨_, rfl, size0, fun p2 np2 => ?_⟩
    have s2 := same_new (o := .lst []) np2
    refine ⟨oneD e.line, .list [], .lst (.of (s2 _ _ eln)) (.cons (.int _) .nil), .lst (.of upd_same) .nil, shaped_one _, shaped_lnil, _, rfl, ifF (eqv_one_nil _) ?_⟩
    have hS2 := (same_fix s2).seqL hS1
    have eln2 := s2 _ _ eln
    have s02 := s1.trans s2
    generalize upd H1 p2 (.lst []) = H2 at hS2 eln2 s02 ⊢
    refine ⟨_, rfl, a, _, 0, _, rfl, rfl, hS2, atI_nat (j := 0) rfl, _, rfl, ln, _, 0, _, rfl, rfl, .of eln2, atI_nat (j := 0) rfl, size2, fun pt npt => ?_⟩
    have s3 := same_new (o := .tup [V.str (kindS e.mute), V.int e.line]) npt
    have ept : SqT K (upd H2 pt (.tup [V.str (kindS e.mute), V.int e.line])) pt [V.str (kindS e.mute), V.int e.line] := .of upd_same
    have hS3 := (same_fix s3).seqL hS2
    have s03 := s02.trans s3
    generalize upd H2 pt (.tup [V.str (kindS e.mute), V.int e.line]) = H3 at ept hS3 s03 ⊢
    refine ⟨_, rfl, a, _, 2, _, rfl, rfl, hS3, atI_nat (j := 2) rfl, _, _, rfl, ?_⟩
    refine ⟨_, rfl, size2, fun p4 np4 => ?_⟩
    have s4 := same_new (o := .tup [V.str "kept", V.str "turn"]) np4
    refine ⟨p4, _, rfl, .inr (.of upd_same), rfl, rfl, _, rfl, ?_⟩
    have ept4 := (same_fix s4).seqT ept
    have hS4 := (same_fix s4).seqL hS3
    have s04 := s03.trans s4
    generalize upd H3 p4 (.tup [V.str "kept", V.str "turn"]) = H4 at ept4 hS4 s04 ⊢
    cases hnum : e.deed.num with
    | none =>
      rw [hnum] at hS4
      refine ifT (by show inV (V.str e.deed.nm) _ = true; rw [in_kt, hnum]; rfl) ?_
      refine ⟨_, rfl, a, _, rfl, .inl hS4, rfl, _, rfl, ifT (by rfl) ?_⟩
      refine ⟨_, rfl, _, rfl, size1, fun p5 np5 => ⟨size2, fun p6 np6 => ?_⟩⟩
      have s5 := same_new (o := .tup [V.str e.deed.nm]) np5
      have s6 := same_new (o := .tup [V.ref pt, V.ref p5]) np6
      refine q p6 _ ((s04.trans s5).trans s6) (ent_dp (.of upd_same) ((same_fix (s5.trans s6)).seqT ept4) ?_)
      rw [deed_w, hnum]
      exact (same_fix s6).seqT (.of upd_same)
    | some x =>
      rw [hnum] at hS4
      refine ifF (by show inV (V.str e.deed.nm) _ = false; rw [in_kt, hnum]; rfl) ?_
      refine ⟨_, rfl, a, _, rfl, .inl hS4, rfl, _, rfl, ifT (by rfl) ?_⟩
      have hx : x.natAbs ≤ 1000000 := hB.2 (.i x) (by rw [deed_w, hnum]; simp) x rfl
      refine ⟨_, rfl, a, _, 3, _, rfl, rfl, hS4, atI_nat (j := 3) rfl, x, rfl, hx, fun nl H5 s5 nnl enl => ?_⟩
      refine ⟨_, rfl, size3, fun p6 np6 => ?_⟩
      have s6 := same_new (o := .tup [V.str "to", V.str "by", V.str "as"]) np6
      refine ⟨p6, _, rfl, .inr (.of upd_same), rfl, rfl, _, rfl, ifT (in_tba hnum) ?_⟩
      refine ⟨_, rfl, size0, fun p7 np7 => ?_⟩
      have s7 := same_new (o := .lst []) np7
      refine ⟨oneD x, .list [], .lst (.of ((s6.trans s7) _ _ enl)) (.cons (.int _) .nil), .lst (.of upd_same) .nil, shaped_one _, shaped_lnil, _, rfl, ifT (by rw [eqv_one_nil]; rfl) ?_⟩
      have s57 := (s5.trans s6).trans s7
      refine ⟨_, rfl, _, rfl, _, rfl, nl, _, 0, _, rfl, rfl, .of ((s6.trans s7) _ _ enl), atI_nat (j := 0) rfl, size2, fun p8 np8 => ⟨size2, fun p9 np9 => ?_⟩⟩
      have s8 := same_new (o := .tup [V.str e.deed.nm, V.int x]) np8
      have s9 := same_new (o := .tup [V.ref pt, V.ref p8]) np9
      refine q p9 _ (((s04.trans s57).trans s8).trans s9) (ent_dp (.of upd_same) ((same_fix ((s57.trans s8).trans s9)).seqT ept4) ?_)
      rw [deed_w, hnum]
      exact (same_fix s9).seqT (.of upd_same)
end
end K33
/-! scene_in. -/
namespace K33
open PySem PySem.Spec PyProof.Rows L2
theorem curW_ent {rs : List (List W)} {k : Nat} {e : Ent} (h : rs[k]? = some e.w) : curW rs k = .str (kindS e.mute) := by
  unfold curW
  rw [h]
  rfl
theorem isPart_kind (m : Bool) : isPartW (.str (kindS m)) = true := by
  cases m <;> decide +kernel
theorem tupOnly_ent (e : Ent) : tupOnly e.d = true := by
  unfold Ent.d
  rw [tupOnly, tupOnlyAll_iff]
  intro d hd
  rcases List.mem_cons.mp hd with e | hd
  · rw [e]
    exact tupOnly_ws _
  · rw [List.mem_singleton.mp hd]
    exact tupOnly_ws _
theorem tupOnly_ents (es : List Ent) : tupOnlyAll (es.map Ent.d) = true := tupOnlyAll_iff.mpr fun d hd => by
  obtain ⟨u, _, rfl⟩ := List.mem_map.mp hd
  exact tupOnly_ent u
section
variable {P : Program} {w : World} {K : PySem.W.Frag} {mg : Str → Option Value} {base : Heap}
theorem cal_scene_in (T : Txt K mg) : C8.Cal P w K mg base 3 "scene_in" (spSceneIn K (LC K)) [] := by
  refine T.cal at_scene_in at_scene_in rfl rfl sc_scene_in (fun _ _ _ _ _ _ us hl => match us, hl with | [_], _ => rfl) (fun vs H Q E h => ?_) (fun f cdv A outer s H vs Q E hr h => ?_)
  · obtain ⟨p, L, rs, k, es, rfl, _⟩ := h
    rfl
  · obtain ⟨p, L, rs, k, es, rfl, hLA, hok, hrows, hend, hes, h12, q⟩ := h
    refine ⟨_, pss_cons (ps_set (i := 1) sc_scene_in.nd rfl (Or.inl rfl) (pe_lst pa_nil))
      (pss_cons (ps_while PassesOwn.never (pt_cmpR op_in_seq (C8.pe_mt0 (met_word T) hr (by decide) (pv 0)) (pe_tup (pa_cons (C8.pe_gc (by rfl) T.FADER) (pa_cons (C8.pe_gc (by rfl) T.MUTE) pa_nil))) (by rfl))
        (pss_cons (ps_set (i := 2) sc_scene_in.nd rfl (Or.inl rfl) (C8.pe_c (cal_entry_in T) hr (by decide) (by rfl) (pa_cons (pe_ix ix_list (pe_fld (pv 0) rfl) (pe_fld (pv 0) rfl) (fun _ _ => rfl)) pa_nil)))
        (pss_cons (ps_expr (C8.pe_mt (met_need T) hr (by decide) (pv 0) (pa_cons (pe_cmpR op_notN (pv 2) pe_non (nomark _)) pa_nil)))
        (pss_cons (ps_expr (pe_bm PySem.F.plainAttrs_list PySem.F.slot_list_append PySem.F.type_list_append mt_append (pv 1) (pa_cons (pv 2) pa_nil)))
        (pss_one (ps_fldaug (pv 0) pe_int in_add))))))
      (pss_one (ps_ret (pe_tupleOf (by rfl) T.m_tuple (pv 1))))), ?_⟩
    refine ⟨size0, fun F nF => ?_⟩
    have s0 := same_new (o := .lst []) nF
    refine ⟨fun j σ' H' => ∃ i acc y, i + j = es.length ∧ σ' = [some (.ref p), some (.ref F), y] ∧ But p H H' ∧ LinesAt (LC K) H' p L rs (k + i) ∧ H' F = some (.lst acc) ∧ DpAll K H' acc ((es.take i).map Ent.d), ⟨es.length, 0, [], none, by omega, rfl, same_but s0, hLA.same s0, upd_same, .nil⟩, ?_⟩
    rintro j σ' H' ⟨i, acc, y, hij, rfl, b1, la, eF, dA⟩
    obtain ⟨⟨dx, ho⟩, tx⟩ := id la
    have nFp : F ≠ p := ne_of eF ho (by intro z; cases z)
    refine ⟨_, rfl, p, dx, _, rfl, ho, flds_no _ _ (by decide +kernel) (by decide +kernel), p, L, rs, k + i, rfl, la, hok, size2, fun p1 np1 => ⟨p1, _, rfl, .inr (.of upd_same), curW_flat _ _, rfl, _, rfl, ?_⟩⟩
    have s1 := same_new (o := .tup [V.str "fader", V.str "mute"]) np1
    have la1 := la.same s1
    have ho1 := s1 _ _ ho
    have eF1 := s1 _ _ eF
    have dA1 := DpAll.fix (same_fix s1) _ _ dA
    have b11 := b1.trans (same_but s1)
    have tx1 := tx.fix (same_fix s1)
    generalize upd H' p1 (.tup [V.str "fader", V.str "mute"]) = H1 at la1 ho1 eF1 dA1 b11 tx1 ⊢
    refine andC (fun hc => ?_) (fun hc => ?_)
    · have hc : isPartW (curW rs (k + i)) = true := hc
      have hi : i < es.length := by
        apply Classical.byContradiction
        intro h0
        rw [show k + i = k + es.length by omega, hend] at hc
        cases hc
      have hrow := hrows i es[i] (List.getElem?_eq_getElem hi)
      have lacc := dpAll_len dA
      rw [List.length_map, List.length_take] at lacc
      refine ⟨fun σ2 H2 => ∃ acc y, σ2 = [some (.ref p), some (.ref F), y] ∧ But p H H2 ∧ LinesAt (LC K) H2 p L rs (k + (i + 1)) ∧ H2 F = some (.lst acc) ∧ DpAll K H2 acc ((es.take (i + 1)).map Ent.d), fun σ2 H2 ⟨acc2, y2, z1, z2, z3, z4, z5⟩ => ⟨j - 1, by omega, i + 1, acc2, y2, by omega, z1, z2, z3, z4, z5⟩, ?_⟩
      obtain ⟨xs, eL, lx, row⟩ := tx1.row
      obtain ⟨r, er, hr2⟩ := row (k + i) _ hrow
      refine ⟨_, rfl, p, _, dx, _, _, rfl, ho1, T.cls, T.no_lines_so, flds_ls _ _, _, rfl, p, _, dx, _, _, rfl, ho1, T.cls, T.no_at, flds_at _ _, L, xs, _, _, rfl, rfl, .of eL, atI_nat er, r, es[i], rfl, .of hr2, hes _ (List.getElem_mem hi), fun t H2 s2 dt => ?_⟩
      have ho2 := s2 _ _ ho1
      refine ⟨_, rfl, p, dx, _, rfl, ho2, flds_no _ _ (by decide +kernel) (by decide +kernel), _, rfl, rfl, p, rfl, ?_⟩
      have eF2 := s2 _ _ eF1
      refine ⟨_, rfl, .inl ⟨rfl, _, .of eF2⟩, _, rfl, F, acc, _, rfl, rfl, eF2, small (by omega), ?_⟩
      have ho3 : (upd H2 F (.lst (acc ++ [.ref t]))) p = some (.ins (LC K) dx (flds L (k + i))) := by
        rw [upd_ne nFp.symm]
        exact ho2
      refine ⟨_, rfl, p, _, dx, _, _, rfl, ho3, T.cls, T.no_at, flds_at _ _, _, _, rfl, rfl, dx, _, ho3, flds_small _ _, ?_⟩
      have e5 : putF "at" (V.int (((k + i : Nat) : Int) + 1)) (flds L (k + i)) = flds L (k + (i + 1)) := flds_put L (k + i) (k + (i + 1))
      rw [e5]
      have b3 : But p H (upd (upd H2 F (.lst (acc ++ [.ref t]))) p (.ins (LC K) dx (flds L (k + (i + 1))))) := fun b o hb e => by
        rw [upd_ne hb, upd_ne (ne_of_none e nF)]
        exact s2 _ _ (b11 b o hb e)
      have fT : FixT H2 (upd (upd H2 F (.lst (acc ++ [.ref t]))) p (.ins (LC K) dx (flds L (k + (i + 1))))) := fun b us r => by
        have r2 := fixT_lst (ys := acc ++ [.ref t]) eF2 b us r
        rcases r2 with r2 | ⟨o, r2⟩
        · exact .inl (by rw [upd_ne (ne_of r2 ho3 (by intro z; cases z))]; exact r2)
        · exact .inr ⟨o, by rw [upd_ne (ne_of r2 ho3 (by intro z; cases z))]; exact r2⟩
      refine ⟨acc ++ [.ref t], _, rfl, b3, ⟨⟨dx, upd_same⟩, hLA.tx.fix (hLA.fixB b3)⟩, by rw [upd_ne nFp, upd_same], ?_⟩
      rw [List.take_succ_eq_append_getElem hi, List.map_append]
      exact dpAll_app (DpAll.fixT fT _ _ (tupOnly_ents _) (DpAll.fix (same_fix s2) _ _ dA1)) (.cons (Dp.fixT fT _ _ (tupOnly_ent _) dt) .nil)
    · have hi : i = es.length := by
        apply Classical.byContradiction
        intro h0
        have hi : i < es.length := by omega
        have hrow := hrows i es[i] (List.getElem?_eq_getElem hi)
        have hc : isPartW (curW rs (k + i)) = false := hc
        rw [curW_ent hrow, isPart_kind] at hc
        cases hc
      subst hi
      rw [List.take_length] at dA1
      refine ⟨_, rfl, .inl ⟨F, acc, rfl, .of eF1, fun t nt => ?_⟩⟩
      have s5 := same_new (o := .tup acc) nt
      exact q t _ (b11.trans (same_but s5)) (la1.same s5) (.tup (.of upd_same) (DpAll.fix (same_fix s5) _ _ dA1))
end
end K33
/-! read_show. -/
namespace K33
open PySem PySem.Spec PyProof.Rows L2
theorem drop_parts {α : Type} {rs mid post : List α} {k : Nat} (h : rs.drop k = mid ++ post) : (∀ (i : Nat) (r : α), mid[i]? = some r → rs[k + i]? = some r) ∧ rs.drop (k + mid.length) = post := by
  refine ⟨fun i r e => ?_, ?_⟩
  · have hi : i < mid.length := (List.getElem?_eq_some_iff.mp e).1
    rw [← List.getElem?_drop, h, List.getElem?_append_left hi]
    exact e
  · rw [← List.drop_drop, h, List.drop_left]
theorem head_at {rs post : List (List W)} {k : Nat} (h : rs.drop k = post) : rs[k]? = post.head? := by
  rw [← h, List.head?_drop]
theorem curW_not {rs post : List (List W)} {k : Nat} {x : Str} {ys : List Str} (h : rs.drop k = post) (hp : ∀ r, post.head? = some r → headIs ys r = true) (hd : (ys.all fun y => !decide (y ∈ [x])) = true) : curW rs k ≠ .str x := by
  unfold curW
  rw [head_at h]
  cases hh : post.head? with
  | none =>
    intro e
    cases e
  | some r =>
    have z := hp r hh
    cases r with
    | nil => cases z
    | cons u r =>
      cases u with
      | i n => cases z
      | s y =>
        have z : y ∈ ys := of_decide_eq_true z
        have q := List.all_eq_true.mp hd y z
        intro e
        have e : y = x := V.str.inj e
        rw [e] at q
        simp at q
theorem fix_fixT {H H' : Hp} (f : Fix H H') : FixT H H' := fun b xs r => by
  rcases r with r | ⟨o, r⟩
  · exact .inl (f _ _ r trivial)
  · exact .inr ⟨o, f _ _ r trivial⟩
theorem FixT.trans {H H1 H2 : Hp} (a : FixT H H1) (b : FixT H1 H2) : FixT H H2 := fun c xs r => b c xs (a c xs r)
theorem tupOnly_scD (es : List Ent) : tupOnly (scD es) = true := by
  unfold scD
  rw [tupOnly]
  exact tupOnly_ents es
theorem tupOnly_scs (cs : List (List Ent)) : tupOnlyAll (cs.map scD) = true := tupOnlyAll_iff.mpr fun d hd => by
  obtain ⟨u, _, rfl⟩ := List.mem_map.mp hd
  exact tupOnly_scD u
theorem tupOnly_tl (Ls : List (List Int)) : tupOnly (.tuple (Ls.map dInts)) = true := by
  rw [tupOnly]
  exact tupOnly_lines Ls
theorem ent_bound {lines : Int} {e : Ent} (hl : lines ≤ 9) (h : EntOk lines e) : EntB e := by
  obtain ⟨h1, h2, h3⟩ := h
  refine ⟨by omega, fun u hu n hn => ?_⟩
  subst hn
  cases hd : e.deed with
  | to x =>
    rw [hd] at hu h3
    simp only [Deed.w, List.mem_cons, List.not_mem_nil, or_false] at hu
    rcases hu with hu | hu
    · cases hu
    · cases hu
      have h3 : if e.mute = true then 0 ≤ n ∧ n ≤ 1 else -1000000 ≤ n ∧ n ≤ 1000000 := h3
      split at h3 <;> omega
  | by_ x =>
    rw [hd] at hu h3
    simp only [Deed.w, List.mem_cons, List.not_mem_nil, or_false] at hu
    rcases hu with hu | hu
    · cases hu
    · cases hu
      have h3 : e.mute = false ∧ -1000000 ≤ n ∧ n ≤ 1000000 := h3
      omega
  | as_ x =>
    rw [hd] at hu h3
    simp only [Deed.w, List.mem_cons, List.not_mem_nil, or_false] at hu
    rcases hu with hu | hu
    · cases hu
    · cases hu
      have h3 : 0 ≤ n ∧ n < lines ∧ n ≠ e.line := h3
      omega
  | turn =>
    rw [hd] at hu
    simp only [Deed.w, List.mem_cons, List.not_mem_nil, or_false] at hu
    cases hu
  | kept =>
    rw [hd] at hu
    simp only [Deed.w, List.mem_cons, List.not_mem_nil, or_false] at hu
    cases hu
theorem rising_b {ns : List Int} {m : Int} (h : Rising ns m) (h0 : 0 ≤ m) (hm : m ≤ 9) : ns.length ≤ 10 ∧ ∀ n ∈ ns, n.natAbs ≤ 1000000 := by
  have l := h.len h0
  refine ⟨by omega, fun n hn => ?_⟩
  have := h.1 n hn
  omega
theorem one_facts {rs post : List (List W)} {k : Nat} {x : Str} {ns : List Int} {ys : List Str} (h : rs.drop k = someLine x ns ++ post) (hp : ∀ r, post.head? = some r → headIs ys r = true) (hd : (ys.all fun y => !decide (y ∈ [x])) = true) :
    (ns = [] → curW rs k ≠ .str x) ∧ (ns ≠ [] → rs[k]? = some (lineOf x ns)) ∧ rs.drop (k + (someLine x ns).length) = post := by
  obtain ⟨a, b⟩ := drop_parts h
  refine ⟨fun e => ?_, fun e => ?_, b⟩
  · have h2 : rs.drop k = post := by
      rw [h, e]
      unfold someLine
      rw [if_pos rfl, List.nil_append]
    exact curW_not h2 hp hd
  · refine a 0 _ ?_
    unfold someLine
    rw [if_neg e]
    rfl
theorem size7 : (7 : Nat) ≤ sizeLine := by decide
def spRead (K : PySem.W.Frag) : Sp := fun vs H Q _ => ∃ (s : Show), vs = [.str (showT s)] ∧ Valid s ∧ LamX.Tabs (Ts K) H ∧ ∀ v H', LamX.ExtN H H' → LamX.Tabs (Ts K) H' → Dp K H' v s.d → Q v H'
abbrev N_read : List Str := ["text", "lines", "strips", "members", "gangs", "hands", "safes", "scenes", "order"]
theorem sc_read_show : FnScope N_read ["text"] (defScope s_read_show) := ⟨rfl, rfl, rfl, by decide +kernel, rfl, by decide +kernel, by decide +kernel⟩
section
variable {P : Program} {w : World} {K : PySem.W.Frag} {mg : Str → Option Value} {base : Heap}
theorem calK_read_show (T : Txt K mg) (TB : TBase base K mg) : CalK P w K mg base 8 "read_show" s_read_show ["text"] (spRead K) := by
  refine T.calK at_read_show at_read_show rfl rfl sc_read_show (fun _ _ _ _ _ _ us hl => match us, hl with | [_], _ => rfl) (fun vs H Q E h => ?_) (fun f cdv A outer s H vs Q E hr h => ?_)
  · obtain ⟨S, rfl, _⟩ := h
    rfl
  · obtain ⟨S, rfl, hV, hT, q⟩ := h
    refine ⟨_, pss_cons (ps_if (pt_not (pt_val (pe_callB call_isW (by rfl) T.m_isinstance bt_isinstance (pa_cons (pv 0) (pa_cons (pe_bltn (v := .ty "str") (by rfl) T.m_str bt_str rfl) pa_nil))))) pss_never pss_nil)
      (pss_cons (ps_set (i := 1) sc_read_show.nd rfl (Or.inl rfl) (C8.pe_mk (mak_lines T) hr (by decide) (by rfl) (pa_cons (pv 0) pa_nil)))
      (pss_cons (ps_expr (C8.pe_mt (met_need T) hr (by decide) (pv 1) (pa_cons (pe_and (pe_cmpR op_eq (C8.pe_mt0 (met_word T) hr (by decide) (pv 1)) (C8.pe_gc (by rfl) T.STRIPS) (nomark _)) (pe_one (pe_cmpR op_eq (pe_callB call_len_seq (by rfl) T.m_len bt_len (pa_cons (pe_ix ix_list (pe_fld (pv 1) rfl) pe_int (fun _ _ => rfl)) pa_nil)) pe_int (nomark _)))) pa_nil)))
      (pss_cons (ps_set (i := 2) sc_read_show.nd rfl (Or.inl rfl) (pe_ix ix_tup (C8.pe_mt (met_ints T) hr (by decide) (pv 1) (pa_cons pe_int pa_nil)) pe_int (fun _ _ => rfl)))
      (pss_cons (ps_par (i := 3) (j := 4) rfl sc_read_show.nd rfl rfl (by decide) (by rfl) (by rfl) (pa_cons (C8.pe_mt (met_someL T) hr (by decide) (pv 1) (pa_cons (C8.pe_gc (by rfl) T.GROUP) (pa_cons pe_int pa_nil))) (pa_cons (C8.pe_mt (met_someL T) hr (by decide) (pv 1) (pa_cons (C8.pe_gc (by rfl) T.GANG) (pa_cons pe_int pa_nil))) pa_nil)) (by rfl))
      (pss_cons (ps_set (i := 5) sc_read_show.nd rfl (Or.inl rfl) (C8.pe_mt (met_oneL T) hr (by decide) (pv 1) (pa_cons (C8.pe_gc (by rfl) T.HANDS) pa_nil)))
      (pss_cons (ps_set (i := 6) sc_read_show.nd rfl (Or.inl rfl) (C8.pe_mt (met_oneL T) hr (by decide) (pv 1) (pa_cons (C8.pe_gc (by rfl) T.SAFES) pa_nil)))
      (pss_cons (ps_set (i := 7) sc_read_show.nd rfl (Or.inl rfl) (pe_lst pa_nil))
      (pss_cons (ps_while PassesOwn.never (pt_cmpR op_eq (C8.pe_mt0 (met_word T) hr (by decide) (pv 1)) (C8.pe_gc (by rfl) T.SCENE) (nomark _))
        (pss_cons (ps_expr (C8.pe_mt (met_need T) hr (by decide) (pv 1) (pa_cons (pe_cmpR op_eq (pe_callB call_len_seq (by rfl) T.m_len bt_len (pa_cons (pe_ix ix_list (pe_fld (pv 1) rfl) (pe_fld (pv 1) rfl) (fun _ _ => rfl)) pa_nil)) pe_int (nomark _)) pa_nil)))
        (pss_cons (ps_fldaug (pv 1) pe_int in_add)
        (pss_one (ps_expr (pe_bm PySem.F.plainAttrs_list PySem.F.slot_list_append PySem.F.type_list_append mt_append (pv 7) (pa_cons (C8.pe_c (cal_scene_in T) hr (by decide) (by rfl) (pa_cons (pv 1) pa_nil)) pa_nil)))))))
      (pss_cons (ps_set (i := 8) sc_read_show.nd rfl (Or.inl rfl) (C8.pe_mt (met_oneL T) hr (by decide) (pv 1) (pa_cons (C8.pe_gc (by rfl) T.LIST) pa_nil)))
      (pss_cons (ps_expr (C8.pe_mt (met_need T) hr (by decide) (pv 1) (pa_cons (pe_cmpR op_isN (C8.pe_mt0 (met_word T) hr (by decide) (pv 1)) pe_non (nomark _)) pa_nil)))
      (pss_one (ps_ret (C8.pe_c (cal_need_show T TB) hr (by decide) (by rfl) (pa_cons (pe_tup (pa_cons (pv 2) (pa_cons (pv 3) (pa_cons (pv 4) (pa_cons (pv 5) (pa_cons (pv 6) (pa_cons (pe_tupleOf (by rfl) T.m_tuple (pv 7)) (pa_cons (pv 8) pa_nil)))))))) pa_nil)))))))))))))), ?_⟩
    have hok : RsOk (rows S) := ⟨rows_ne S, hV.rows_len, hV.rowOk⟩
    have hst := hV.st
    have hlin := hV.lines
    have hml := hV.ml
    have hgl := hV.gl
    have hcl := hV.cl
    refine ⟨_, rfl, .s (showT S), rfl, _, rfl, iteF ?_⟩
    refine ⟨_, rfl, fun p dx np ndx nexp => ⟨p, dx, rows S, rfl, upd_same, hok, fun L H1 b1 la1 => ⟨rfl, ?_⟩⟩⟩
    have b01 : But p H H1 := fun b o hb e => b1 b o hb (by rw [upd_ne hb, upd_ne (ne_of_none e ndx)]; exact e)
    clear b1 ndx nexp
    have hr0 : (rows S)[0]? = some [.s "strips", .i S.strips] := rfl
    have D1 : (rows S).drop 1 = S.members.map (lineOf "group") ++ tail4 S := rfl
    -- the first line
    obtain ⟨⟨dx1, ho1⟩, tx1⟩ := id la1
    obtain ⟨xs, eL, lx, row⟩ := tx1.row
    obtain ⟨r, er, hr2⟩ := row 0 _ hr0
    refine ⟨_, rfl, p, dx1, _, rfl, ho1, flds_no _ _ (by decide +kernel) (by decide +kernel), _, rfl, p, dx1, _, rfl, ho1, flds_no _ _ (by decide +kernel) (by decide +kernel), p, L, rows S, 0, rfl, la1, hok, curW_scal _ _ _, _, rfl, ifT (eqS _) ?_⟩
    refine ⟨_, rfl, p, _, dx1, _, _, rfl, ho1, T.cls, T.no_lines_so, flds_ls _ _, L, xs, 0, _, rfl, rfl, .of eL, atI_nat (j := 0) er, r, _, rfl, .inl (.of hr2), rfl, p, rfl, ?_⟩
    refine ⟨_, rfl, p, dx1, _, rfl, ho1, flds_no _ _ (by decide +kernel) (by decide +kernel), p, L, rows S, 0, .s "strips", [S.strips], 1, rfl, la1, hr0, by rw [List.length_singleton]; decide, by rw [List.length_singleton]; decide, fun n hn => by rw [List.mem_singleton.mp hn]; omega, fun t0 H2 b2 la2 ht0 => ?_⟩
    refine ⟨t0, _, 0, _, rfl, rfl, ht0, atI_nat (j := 0) rfl, ?_⟩
    have b02 := b01.trans b2
    -- members, gangs
    obtain ⟨R1, D2⟩ := drop_parts D1
    rw [List.length_map] at D2
    obtain ⟨⟨dx2, ho2⟩, _⟩ := id la2
    refine ⟨_, rfl, p, dx2, _, rfl, ho2, flds_no _ _ (by decide +kernel) (by decide +kernel), p, L, rows S, 0 + 1, "group", 0, S.members, rfl, la2, hok, fun i l e => R1 i _ (by rw [List.getElem?_map, e]; rfl), ?_, fun l hl => ?_, by omega, fun tm H3 b3 la3 dm => ?_⟩
    · exact curW_not (x := "group") D2 (fun r hr => head4 hr) (by decide +kernel)
    · have := rising_b (hV.mr l hl) (by omega) (by omega)
      exact ⟨by omega, this.1, this.2⟩
    have b03 := b02.trans b3
    have D2 : (rows S).drop (0 + 1 + S.members.length) = S.gangs.map (lineOf "gang") ++ tail3 S := D2
    obtain ⟨R2, D3⟩ := drop_parts D2
    rw [List.length_map] at D3
    obtain ⟨⟨dx3, ho3⟩, _⟩ := id la3
    refine ⟨_, rfl, p, dx3, _, rfl, ho3, flds_no _ _ (by decide +kernel) (by decide +kernel), p, L, rows S, 0 + 1 + S.members.length, "gang", 1, S.gangs, rfl, la3, hok, fun i l e => R2 i _ (by rw [List.getElem?_map, e]; rfl), ?_, fun l hl => ?_, by omega, fun tg H4 b4 la4 dg => ?_⟩
    · exact curW_not (x := "gang") D3 (fun r hr => head3 hr) (by decide +kernel)
    · have z := rising_b (hV.gr l hl).1 (by omega) (by omega)
      have := (hV.gr l hl).2
      exact ⟨by omega, z.1, z.2⟩
    have b04 := b03.trans b4
    have dm4 := Dp.fix (la3.fixB b4) _ _ dm
    refine ⟨_, _, rfl, ?_⟩
    -- hands, safes
    generalize 0 + 1 + S.members.length + S.gangs.length = k4 at la4 D3
    have D3 : (rows S).drop k4 = someLine "hands" S.hands ++ tail2 S := D3
    obtain ⟨o1, o2, D4⟩ := one_facts (ys := ["safes", "scene", "list"]) D3 (fun r hr => head2 hr) (by decide +kernel)
    obtain ⟨⟨dx4, ho4⟩, _⟩ := id la4
    have hbh := rising_b hV.hr (by omega) (by omega)
    refine ⟨_, rfl, p, dx4, _, rfl, ho4, flds_no _ _ (by decide +kernel) (by decide +kernel), p, L, rows S, k4, "hands", S.hands, rfl, la4, hok, o1, o2, hbh.1, hbh.2, fun th H5 b5 la5 hth => ?_⟩
    have b05 := b04.trans b5
    have dm5 := Dp.fix (la4.fixB b5) _ _ dm4
    have dg5 := Dp.fix (la4.fixB b5) _ _ dg
    generalize k4 + (someLine "hands" S.hands).length = k5 at la5 D4
    have D4 : (rows S).drop k5 = someLine "safes" S.safes ++ tail1 S := D4
    obtain ⟨o1, o2, D5⟩ := one_facts (ys := ["scene", "list"]) D4 (fun r hr => head1 hr) (by decide +kernel)
    obtain ⟨⟨dx5, ho5⟩, _⟩ := id la5
    have hbs := rising_b hV.sr (by omega) (by omega)
    refine ⟨_, rfl, p, dx5, _, rfl, ho5, flds_no _ _ (by decide +kernel) (by decide +kernel), p, L, rows S, k5, "safes", S.safes, rfl, la5, hok, o1, o2, hbs.1, hbs.2, fun ts H6 b6 la6 hts => ?_⟩
    have b06 := b05.trans b6
    have dm6 := Dp.fix (la5.fixB b6) _ _ dm5
    have dg6 := Dp.fix (la5.fixB b6) _ _ dg5
    have hth6 := (la5.fixB b6).seqT hth
    generalize k5 + (someLine "safes" S.safes).length = k6 at la6 D5
    clear o1 o2 la1 la2 la3 la4 la5 b01 b02 b03 b04 b05 b2 b3 b4 b5 b6 dm dg dm4 dm5 dg5 hth ho1 ho2 ho3 ho4 ho5 R1 R2 D1 D2 D3 D4 row er hr2 tx1 eL lx ht0
    -- scenes
    refine ⟨size0, fun F nF => ?_⟩
    have s0 := same_new (o := .lst []) nF
    refine ⟨fun j σ' H' => ∃ i k acc, i + j = S.scenes.length ∧ σ' = [some (.str (showT S)), some (.ref p), some (.int S.strips), some (.ref tm), some (.ref tg), some (.ref th), some (.ref ts), some (.ref F), none] ∧ But p H6 H' ∧ LinesAt (LC K) H' p L (rows S) k ∧
      (rows S).drop k = ((S.scenes.drop i).map sceneRows).flatten ++ someLine "list" S.order ∧ H' F = some (.lst acc) ∧ DpAll K H' acc ((S.scenes.take i).map scD), ⟨S.scenes.length, 0, k6, [], by omega, rfl, same_but s0, la6.same s0, D5, upd_same, .nil⟩, ?_⟩
    rintro j σ' H' ⟨i, k, acc, hij, rfl, b7, la, DD, eF, dA⟩
    obtain ⟨⟨dx7, ho⟩, tx⟩ := id la
    have nFp : F ≠ p := ne_of eF ho (by intro z; cases z)
    have lacc := dpAll_len dA
    rw [List.length_map, List.length_take] at lacc
    refine ⟨_, rfl, p, dx7, _, rfl, ho, flds_no _ _ (by decide +kernel) (by decide +kernel), p, L, rows S, k, rfl, la, hok, curW_scal _ _ _, _, rfl, andC (fun hc => ?_) (fun hc => ?_)⟩
    · have hi : i < S.scenes.length := by
        apply Classical.byContradiction
        intro h0
        have e0 : S.scenes.drop i = [] := List.drop_eq_nil_of_le (by omega)
        rw [e0] at DD
        have DD : (rows S).drop k = someLine "list" S.order := DD
        exact curW_not (x := "scene") (ys := ["list"]) DD (fun r hr => by
          have e := list_head (ns := S.order) hr
          rw [e, headIs_line]
          decide +kernel) (by decide +kernel) (of_decide_eq_true hc)
      rw [List.drop_eq_getElem_cons hi] at DD
      have DD : (rows S).drop k = [[W.s "scene"]] ++ (S.scenes[i].map Ent.w ++ (((S.scenes.drop (i + 1)).map sceneRows).flatten ++ someLine "list" S.order)) := by
        rw [DD, List.map_cons, List.flatten_cons]
        unfold sceneRows
        simp only [List.cons_append, List.nil_append, List.append_assoc]
      obtain ⟨R1, D2⟩ := drop_parts DD
      have hrow := R1 0 _ rfl
      obtain ⟨R2, D3⟩ := drop_parts D2
      rw [List.length_singleton] at D2 R2 D3
      rw [List.length_map] at D3
      obtain ⟨xs, eL, lx, row⟩ := tx.row
      obtain ⟨r, er, hr2⟩ := row k _ hrow
      obtain ⟨c1, c2, c3⟩ := hV.cr S.scenes[i] (List.getElem_mem hi)
      refine ⟨fun σ2 H2 => ∃ k acc, σ2 = [some (.str (showT S)), some (.ref p), some (.int S.strips), some (.ref tm), some (.ref tg), some (.ref th), some (.ref ts), some (.ref F), none] ∧ But p H6 H2 ∧ LinesAt (LC K) H2 p L (rows S) k ∧
        (rows S).drop k = ((S.scenes.drop (i + 1)).map sceneRows).flatten ++ someLine "list" S.order ∧ H2 F = some (.lst acc) ∧ DpAll K H2 acc ((S.scenes.take (i + 1)).map scD), fun σ2 H2 ⟨k2, acc2, z1, z2, z3, z4, z5, z6⟩ => ⟨j - 1, by omega, i + 1, k2, acc2, by omega, z1, z2, z3, z4, z5, z6⟩, ?_⟩
      refine ⟨_, rfl, p, dx7, _, rfl, ho, flds_no _ _ (by decide +kernel) (by decide +kernel), _, rfl, p, _, dx7, _, _, rfl, ho, T.cls, T.no_lines_so, flds_ls _ _, _, rfl, p, _, dx7, _, _, rfl, ho, T.cls, T.no_at, flds_at _ _, L, xs, _, _, rfl, rfl, .of eL, atI_nat er, r, _, rfl, .inl (.of hr2), rfl, p, rfl, ?_⟩
      refine ⟨_, rfl, p, _, dx7, _, _, rfl, ho, T.cls, T.no_at, flds_at _ _, _, _, rfl, rfl, dx7, _, ho, flds_small _ _, ?_⟩
      have e5 : putF "at" (V.int ((k : Int) + 1)) (flds L k) = flds L (k + 1) := flds_put L k (k + 1)
      rw [e5]
      have b8 : But p H' (upd H' p (.ins (LC K) dx7 (flds L (k + 1)))) := but_upd
      have f8 := la.fixB b8
      have la8 : LinesAt (LC K) (upd H' p (.ins (LC K) dx7 (flds L (k + 1)))) p L (rows S) (k + 1) := ⟨⟨dx7, upd_same⟩, tx.fix f8⟩
      have eF8 := b8 _ _ nFp eF
      have dA8 := DpAll.fix f8 _ _ dA
      have b78 := b7.trans b8
      generalize upd H' p (.ins (LC K) dx7 (flds L (k + 1))) = H8 at la8 eF8 dA8 b78 ⊢
      refine ⟨_, rfl, .inl ⟨rfl, _, .of eF8⟩, _, rfl, p, L, rows S, k + 1, S.scenes[i], rfl, la8, hok, fun m e he => R2 m _ (by rw [List.getElem?_map, he]; rfl), ?_, fun e he => ent_bound hlin.2 (c2 e he), c1, fun t H9 b9 la9 dt => ?_⟩
      · unfold isPartW curW
        rw [head_at D3]
        cases hh : ((((S.scenes.drop (i + 1)).map sceneRows).flatten ++ someLine "list" S.order).head?) with
        | none => rfl
        | some r2 =>
          rcases scenes_head hh with e | e <;> rw [e]
          · exact (show inV (V.str "scene") [.str "fader", .str "mute"] = false by decide +kernel)
          · exact (show inV (V.str "list") [.str "fader", .str "mute"] = false by decide +kernel)
      · have e9 := b9 _ _ nFp eF8
        have f9 := la8.fixB b9
        obtain ⟨⟨dx9, ho9⟩, tx9⟩ := id la9
        refine ⟨F, acc, _, rfl, rfl, e9, small (by omega), k + 1 + S.scenes[i].length, acc ++ [.ref t], rfl, ?_, ?_, D3, upd_same, ?_⟩
        · exact fun b o hb e => by
            rw [upd_ne (ne_of_none e nF)]
            exact b9 b o hb (b78 b o hb e)
        · have bb : But p H6 (upd H9 F (.lst (acc ++ [.ref t]))) := fun b o hb e => by
            rw [upd_ne (ne_of_none e nF)]
            exact b9 b o hb (b78 b o hb e)
          exact ⟨⟨dx9, by rw [upd_ne nFp.symm]; exact ho9⟩, la6.tx.fix (la6.fixB bb)⟩
        · rw [List.take_succ_eq_append_getElem hi, List.map_append]
          exact dpAll_app (DpAll.fixT (fixT_lst e9) _ _ (tupOnly_scs _) (DpAll.fix f9 _ _ dA8)) (.cons (Dp.fixT (fixT_lst e9) _ _ (tupOnly_scD _) dt) .nil)
    · have hi : i = S.scenes.length := by
        apply Classical.byContradiction
        intro h0
        have hi : i < S.scenes.length := by omega
        rw [List.drop_eq_getElem_cons hi] at DD
        have e0 : (rows S)[k]? = some [W.s "scene"] := by
          rw [head_at DD]
          rfl
        refine of_decide_eq_false hc ?_
        unfold curW
        rw [e0]
        rfl
      subst hi
      rw [List.take_length] at dA
      have e0 : S.scenes.drop S.scenes.length = [] := List.drop_length
      rw [e0] at DD
      have DD : (rows S).drop k = someLine "list" S.order ++ [] := by
        rw [DD, List.append_nil]
        rfl
      obtain ⟨o1, o2, D9⟩ := one_facts (ys := []) DD (fun r hr => by cases hr) (by decide)
      have hol := hV.ol
      refine ⟨_, rfl, p, dx7, _, rfl, ho, flds_no _ _ (by decide +kernel) (by decide +kernel), p, L, rows S, k, "list", S.order, rfl, la, hok, o1, o2, by omega, fun n hn => by have := hV.orr n hn; omega, fun to H9 b9 la9 hto => ?_⟩
      have b79 := b7.trans b9
      have f69 := la6.fixB b79
      have e9 := b9 _ _ nFp eF
      have dA9 := DpAll.fix (la.fixB b9) _ _ dA
      obtain ⟨⟨dx9, ho9⟩, tx9⟩ := id la9
      have cw : curW (rows S) (k + (someLine "list" S.order).length) = .non := by
        unfold curW
        rw [head_at D9]
        rfl
      refine ⟨_, rfl, p, dx9, _, rfl, ho9, flds_no _ _ (by decide +kernel) (by decide +kernel), _, rfl, p, dx9, _, rfl, ho9, flds_no _ _ (by decide +kernel) (by decide +kernel), p, L, rows S, _, rfl, la9, hok, rfl, p, by rw [cw]; rfl, ?_⟩
      refine ⟨_, rfl, _, rfl, _, rfl, _, rfl, _, rfl, _, rfl, .inl ⟨F, acc, rfl, .of e9, fun tc ntc => ⟨_, rfl, size7, fun tt ntt => ?_⟩⟩⟩
      have s10 := same_new (o := .tup acc) ntc
      have s11 := same_new (o := .tup [V.int S.strips, .ref tm, .ref tg, .ref th, .ref ts, .ref tc, .ref to]) ntt
      have s12 := s10.trans s11
      have hA : ShowAt K (upd (upd H9 tc (.tup acc)) tt (.tup [V.int S.strips, .ref tm, .ref tg, .ref th, .ref ts, .ref tc, .ref to])) S tt tm tg th ts tc to :=
        ⟨.of upd_same, Dp.fix (f69.trans (same_fix s12)) _ _ dm6, Dp.fix (f69.trans (same_fix s12)) _ _ dg6, (f69.trans (same_fix s12)).seqT hth6, (f69.trans (same_fix s12)).seqT hts,
          .tup ((same_fix s11).seqT (.of upd_same)) (DpAll.fix (same_fix s12) _ _ dA9), (same_fix s12).seqT hto⟩
      have sf : Same H (upd (upd H9 tc (.tup acc)) tt (.tup [V.int S.strips, .ref tm, .ref tg, .ref th, .ref ts, .ref tc, .ref to])) := ((b06.trans b79).trans (same_but s12)).free np
      exact ⟨.ref tt, S, rfl, hA.dp, hV, hT.ext sf, fun H13 x13 T13 => q _ H13 ((same_extN sf).trans x13) T13 (Dp.fix (extN_fix x13) _ _ hA.dp)⟩
theorem cal_read_show (T : Txt K mg) (TB : TBase base K mg) : C8.Cal P w K mg base 8 "read_show" (spRead K) [] := (calK_read_show T TB).cal
end
end K33
/-! The draw: _law_begin, _law_next. -/
namespace K33
open PySem PySem.Spec PyProof.Rows L2
def drawD (c : Addr) (a l u : Int) : List (Key × V) := [(.inr "cells", .ref c), (.inr "at", .int a), (.inr "left", .int l), (.inr "used", .int u)]
theorem dv_cells (c : Addr) (a l u : Int) : valV (drawD c a l u) (.inr "cells") = some (.ref c) := rfl
theorem dv_at (c : Addr) (a l u : Int) : valV (drawD c a l u) (.inr "at") = some (.int a) := rfl
theorem dv_left (c : Addr) (a l u : Int) : valV (drawD c a l u) (.inr "left") = some (.int l) := rfl
theorem dv_used (c : Addr) (a l u : Int) : valV (drawD c a l u) (.inr "used") = some (.int u) := rfl
theorem dp_at (c : Addr) (a l u x : Int) : putK (drawD c a l u) (.inr "at") (.int x) = drawD c x l u := rfl
theorem dp_left (c : Addr) (a l u x : Int) : putK (drawD c a l u) (.inr "left") (.int x) = drawD c a x u := rfl
theorem dp_used (c : Addr) (a l u x : Int) : putK (drawD c a l u) (.inr "used") (.int x) = drawD c a l x := rfl
theorem dm_all (c : Addr) (a l u : Int) : mergeK [] (drawD c a l u) = drawD c a l u := rfl
/-- a draw stands at d over the cells g, at most n numbers were made up -/
def Draw (K : PySem.W.Frag) (H : Hp) (d : Addr) (g : Addr × List Int) (n : Nat) : Prop := ∃ (a : Nat) (l : Int) (u : Nat), H d = some (.dK (drawD g.1 a l u)) ∧ SqL K H g.1 (g.2.map V.int) ∧ g.2 ≠ [] ∧ u ≤ n
theorem Draw.same {K : PySem.W.Frag} {H H' : Hp} {d : Addr} {g : Addr × List Int} {n : Nat} (h : Draw K H d g n) (s : Same H H') : Draw K H' d g n := by
  obtain ⟨a, l, u, e, hc, hn, hu⟩ := h
  exact ⟨a, l, u, s _ _ e, (same_fix s).seqL hc, hn, hu⟩
theorem Draw.fix {K : PySem.W.Frag} {H H' : Hp} {d : Addr} {g : Addr × List Int} {n : Nat} (h : Draw K H d g n) (b : But d H H') : Fix H H' := by
  obtain ⟨a, l, u, e, _⟩ := h
  exact b.fix e fun z => z
theorem Draw.mono {K : PySem.W.Frag} {H : Hp} {d : Addr} {g : Addr × List Int} {n m : Nat} (h : Draw K H d g n) (l : n ≤ m) : Draw K H d g m := by
  obtain ⟨a, l2, u, e, hc, hn, hu⟩ := h
  exact ⟨a, l2, u, e, hc, hn, by omega⟩
theorem Draw.ne {K : PySem.W.Frag} {H : Hp} {d D : Addr} {g : Addr × List Int} {n : Nat} (h : Draw K H d g n) (nD : H D = none) : D ≠ d := by
  obtain ⟨a, l2, u, e, _⟩ := h
  exact (ne_of_none e nD).symm
/-- a store at D, free at H0 -/
theorem Draw.put {K : PySem.W.Frag} {H0 H1 : Hp} {d D : Addr} {g : Addr × List Int} {n m : Nat} {o : HO} (h0 : Draw K H0 d g n) (nD : H0 D = none) (h1 : Draw K H1 d g m) (b : But d H0 (upd H1 D o)) : Draw K (upd H1 D o) d g m := by
  have nd := h0.ne nD
  have f := h0.fix b
  obtain ⟨_, _, _, _, hc, hn, _⟩ := h0
  obtain ⟨a, l, u, e, _, _, hu⟩ := h1
  exact ⟨a, l, u, by rw [upd_ne nd.symm]; exact e, f.seqL hc, hn, hu⟩
def spBegin (K : PySem.W.Frag) : Sp := fun vs H Q _ => ∃ (a : Addr) (ns : List Int), vs = [.ref a] ∧ SqL K H a (ns.map V.int) ∧ ns.length ≤ 900 ∧ ∀ d g H', Same H H' → H d = none → Draw K H' d g 0 → Q (.ref d) H'
def spNextL (K : PySem.W.Frag) : Sp := fun vs H Q _ => ∃ (d : Addr) (m : Int) (g : Addr × List Int) (n : Nat), vs = [.ref d, .int m] ∧ Draw K H d g n ∧ (0 < m ∧ m < 1000000) ∧ n ≤ 1000000 ∧ ∀ (r : Int) H', 0 ≤ r → r < m → But d H H' → Draw K H' d g (n + 1) → Q (.int r) H'
abbrev N_nx : List Str := ["_law_draw", "_law_many", "_law_cell", "_law_cells", "_law_number", "_law_k"]
theorem sc_begin : FnScope ["_law_script"] ["_law_script"] (defScope s_law_begin) := ⟨rfl, rfl, rfl, by decide +kernel, rfl, by decide +kernel, by decide +kernel⟩
theorem sc_next : FnScope N_nx ["_law_draw", "_law_many"] (defScope s_law_next) := ⟨rfl, rfl, rfl, by decide +kernel, rfl, by decide +kernel, by decide +kernel⟩
theorem units1 {k : Nat} {A : Around} (r : Room k A) : A.units + 1 < cLine := by
  have := r.un
  omega
section
variable {P : Program} {w : World} {K : PySem.W.Frag} {mg : Str → Option Value} {base : Heap}
theorem cal_begin (T : Txt K mg) : C8.Cal P w K mg base 1 "_law_begin" (spBegin K) [] := by
  refine T.cal at_law_begin at_law_begin rfl rfl sc_begin (fun _ _ _ _ _ _ us hl => match us, hl with | [_], _ => rfl) (fun vs H Q E h => ?_) (fun f cdv A outer s H vs Q E hr h => ?_)
  · obtain ⟨a, ns, rfl, _⟩ := h
    rfl
  · obtain ⟨a, ns, rfl, hS, hl, q⟩ := h
    refine ⟨_, pss_one (ps_ret (pe_disp (pps_cons pe_str (pe_op op_catL (pv 0) (pe_lst (pa_cons pe_int pa_nil))) (pps_cons pe_str pe_int (pps_cons pe_str pe_int (pps_cons pe_str pe_int pps_nil)))) rfl rfl (by decide) (by decide))), ?_⟩
    intro d nd
    have s1 := same_new (o := .dK []) nd
    have hS1 := (same_fix s1).seqL hS
    have e1 : (upd H d (.dK [])) d = some (.dK []) := upd_same
    generalize upd H d (.dK []) = H1 at s1 hS1 e1 ⊢
    refine ⟨_, rfl, size1, fun b nb => ?_⟩
    have s2 := same_new (o := .lst [V.int 0]) nb
    refine ⟨a, b, ns.map V.int, [.int 0], rfl, rfl, (same_fix s2).seqL hS1, .of upd_same, Nat.le_of_lt (small (by rw [List.length_map, List.length_singleton]; omega)), fun c nc => ?_⟩
    have s3 := same_new (o := .lst (ns.map V.int ++ [.int 0])) nc
    have s23 := s2.trans s3
    refine ⟨s23 _ _ e1, drawD c 0 0 0, rfl, (show 4 ≤ 15 by decide), ?_⟩
    rw [dm_all]
    have hc : SqL K (upd (upd H1 b (.lst [V.int 0])) c (.lst (ns.map V.int ++ [.int 0]))) c ((ns ++ [0]).map V.int) := by
      rw [List.map_append]
      exact .of upd_same
    generalize upd (upd H1 b (.lst [V.int 0])) c (.lst (ns.map V.int ++ [.int 0])) = H2 at s23 hc ⊢
    have e2 := s23 _ _ e1
    have ncd : c ≠ d := fun z => by
      rw [z] at nc
      have : (upd H1 b (.lst [V.int 0])) d = some (.dK []) := s2 _ _ e1
      rw [this] at nc
      cases nc
    refine q d (c, ns ++ [0]) _ (fun x o e => ?_) nd ⟨0, 0, 0, upd_same, ?_, by simp, by omega⟩
    · have nx : x ≠ d := ne_of_none e nd
      rw [upd_ne nx]
      exact s23 _ _ (s1 _ _ e)
    · exact (But.fix (d := d) but_upd e2 (fun z => z)).seqL hc
theorem cal_next (T : Txt K mg) : C8.Cal P w K mg base 1 "_law_next" (spNextL K) [] := by
  refine T.cal at_law_next at_law_next rfl rfl sc_next (fun _ _ _ _ _ _ us hl => match us, hl with | [_, _], _ => rfl) (fun vs H Q E h => ?_) (fun f cdv A outer s H vs Q E hr h => ?_)
  · obtain ⟨d, m, g, n, rfl, _⟩ := h
    rfl
  · obtain ⟨d, m, ⟨c, ns⟩, n, rfl, ⟨a, l, u, hd, hc, hne, hun⟩, ⟨hm0, hm1⟩, hn, q⟩ := h
    have hd : H d = some (.dK (drawD c a l u)) := hd
    have hc : SqL K H c (ns.map V.int) := hc
    have hne : ns ≠ [] := hne
    have hu := units1 hr
    refine ⟨_, pss_cons (ps_if (pt_cmpR op_gt (pe_dget hu (pv 0) pe_str (fun _ _ => rfl)) pe_int (nomark _))
        (pss_cons (ps_asg (pe_tup (pa_cons (pe_dget hu (pv 0) pe_str (fun _ _ => rfl)) (pa_cons (pe_op op_fdiv (pe_dget hu (pv 0) pe_str (fun _ _ => rfl)) (pv 1)) pa_nil))) (pg_tup rfl (pgs_cons (pg_name (i := 2) sc_next.nd rfl (.inl rfl)) (pgs_cons (pg_sub (pv 0) pe_str (set_dict hu)) pgs_nil))))
        (pss_one (ps_ret (pe_op op_mod (pv 2) (pv 1))))) pss_nil)
      (pss_cons (ps_set (i := 3) sc_next.nd rfl (Or.inl rfl) (pe_dget hu (pv 0) pe_str (fun _ _ => rfl)))
      (pss_cons (ps_set (i := 2) sc_next.nd rfl (Or.inl rfl) (pe_ix ix_list (pv 3) (pe_op op_mod (pe_dget hu (pv 0) pe_str (fun _ _ => rfl)) (pe_callB call_len_seq (by rfl) T.m_len bt_len (pa_cons (pv 3) pa_nil))) (fun _ _ => rfl)))
      (pss_cons (ps_dput hu (pv 0) pe_str (pe_op op_add (pe_dget hu (pv 0) pe_str (fun _ _ => rfl)) pe_int) rfl)
      (pss_cons (ps_if (PW.pt (pw_and (pt_cmpR op_ge (pv 2) (pe_op op_pow pe_int pe_int) (nomark _)) (pw_and1 (pt_cmpR op_le (pe_dget hu (pv 0) pe_str (fun _ _ => rfl)) (pe_callB call_len_seq (by rfl) T.m_len bt_len (pa_cons (pv 3) pa_nil)) (nomark _)))))
        (pss_cons (ps_dput hu (pv 0) pe_str (pe_op op_fdiv (pv 2) (pv 1)) rfl) (pss_one (ps_ret (pe_op op_mod (pv 2) (pv 1))))) pss_nil)
      (pss_cons (ps_dput hu (pv 0) pe_str (pe_op op_add (pe_dget hu (pv 0) pe_str (fun _ _ => rfl)) pe_int) rfl)
      (pss_cons (ps_set (i := 4) sc_next.nd rfl (Or.inl rfl) (pe_op op_add (pe_op op_mod (pv 2) pe_int) (pe_op op_mul (pe_op op_mul pe_int (pe_dget hu (pv 0) pe_str (fun _ _ => rfl))) (pe_dget hu (pv 0) pe_str (fun _ _ => rfl)))))
      (pss_cons (ps_for PassesOwn.never rfl (pi_tup (pe_tup (pa_cons (pe_dget hu (pv 0) pe_str (fun _ _ => rfl)) (pa_cons (pe_dget hu (pv 0) pe_str (fun _ _ => rfl)) pa_nil)))) (pg_name (i := 5) sc_next.nd rfl (.inl rfl))
        (pss_cons (ps_set (i := 4) sc_next.nd rfl (Or.inl rfl) (pe_op op_mod (pe_op op_mul (pe_op op_add (pe_op op_add (pv 4) (pe_op op_mul pe_int (pv 5))) pe_int) pe_int) pe_int))
        (pss_one (ps_set (i := 4) sc_next.nd rfl (Or.inl rfl) (pe_op op_mod (pe_op op_mul (pv 4) (pe_op op_add pe_int (pe_op op_mul pe_int (pe_op op_mod (pv 5) pe_int)))) pe_int)))))
      (pss_one (ps_ret (pe_op op_mod (pe_op op_fdiv (pv 4) pe_int) (pv 1))))))))))), ?_⟩
    refine ⟨_, rfl, d, .int l, rfl, DGet.k (k := Sum.inr "left") hd, _, _, rfl, rfl, _, rfl, andC (fun h0 => ?_) (fun h0 => ?_)⟩
    · refine ⟨_, rfl, d, .int l, rfl, DGet.k (k := Sum.inr "left") hd, _, rfl, d, .int l, rfl, DGet.k (k := Sum.inr "left") hd, _, rfl, _, _, rfl, rfl, ⟨hm0, by omega⟩, size2, fun p np => ?_⟩
      have s1 := same_new (o := .tup [V.int l, V.int (l / m)]) np
      have hd1 := s1 _ _ hd
      refine ⟨p, _, rfl, .of upd_same, rfl, _, _, rfl, _, _, rfl, ⟨_, rfl, d, _, rfl, DPut.k (k := Sum.inr "left") hd1 (show 4 < sizeLine by decide), ?_⟩⟩
      rw [dp_left]
      have b2 : But d H (upd (upd H p (.tup [V.int l, V.int (l / m)])) d (.dK (drawD c a (l / m) u))) := (same_but s1).trans but_upd
      have hc2 := (b2.fix hd (fun z => z)).seqL hc
      refine ⟨rfl, _, rfl, _, rfl, _, _, rfl, rfl, hm0, ?_⟩
      exact q (l % m) _ (Int.emod_nonneg _ (by omega)) (Int.emod_lt_of_pos _ hm0) b2 ⟨a, l / m, u, upd_same, hc2, hne, by omega⟩
    · have hpos : 0 < ns.length := List.length_pos_iff.mpr hne
      have hlm : (ns.map V.int).length = ns.length := List.length_map _
      have hlt : a % ns.length < ns.length := Nat.mod_lt _ hpos
      have gi : (ns.map V.int)[a % ns.length]? = some (.int ns[a % ns.length]) := by
        rw [List.getElem?_map, List.getElem?_eq_getElem hlt]
        rfl
      generalize ns[a % ns.length] = cell at gi
      refine ⟨_, rfl, d, .ref c, rfl, DGet.k (k := Sum.inr "cells") hd, ?_⟩
      refine ⟨_, rfl, _, rfl, d, .int a, rfl, DGet.k (k := Sum.inr "at") hd, _, rfl, c, _, rfl, .inl hc, _, _, rfl, rfl, (by show (0 : Int) < _; omega), c, _, _, _, rfl, rfl, hc, at_of (j := a % ns.length) (by rw [hlm]; omega) gi, ?_⟩
      refine ⟨_, rfl, d, .int a, rfl, DGet.k (k := Sum.inr "at") hd, _, 1, rfl, rfl, _, rfl, d, _, rfl, DPut.k (k := Sum.inr "at") hd (show 4 < sizeLine by decide), ?_⟩
      rw [dp_at, show ((a : Nat) : Int) + 1 = ((a + 1 : Nat) : Int) by omega]
      have b1 : But d H (upd H d (.dK (drawD c ((a + 1 : Nat) : Int) l u))) := but_upd
      have hc1 := (b1.fix hd (fun z => z)).seqL hc
      have hd1 : (upd H d (.dK (drawD c ((a + 1 : Nat) : Int) l u))) d = some (.dK (drawD c ((a + 1 : Nat) : Int) l u)) := upd_same
      generalize upd H d (.dK (drawD c ((a + 1 : Nat) : Int) l u)) = H1 at b1 hc1 hd1 ⊢
      refine ⟨_, rfl, 10, 18, rfl, rfl, ⟨by decide, by decide, by decide⟩, _, _, rfl, rfl, _, rfl, andC (fun h1 => ?_) (fun h1 => ?_)⟩
      refine ⟨_, rfl, d, .int ((a + 1 : Nat) : Int), rfl, DGet.k (k := Sum.inr "at") hd1, _, rfl, c, _, rfl, .inl hc1, _, _, rfl, rfl, _, rfl, andC (fun h2 => ?_) (fun h2 => ?_)⟩
      · refine ⟨_, rfl, _, rfl, _, _, rfl, rfl, ⟨hm0, by omega⟩, _, rfl, d, _, rfl, DPut.k (k := Sum.inr "left") hd1 (show 4 < sizeLine by decide), ?_⟩
        rw [dp_left]
        have b2 : But d H (upd H1 d (.dK (drawD c ((a + 1 : Nat) : Int) (cell / m) u))) := b1.trans but_upd
        have hc2 := (b2.fix hd (fun z => z)).seqL hc
        refine ⟨_, rfl, _, rfl, _, _, rfl, rfl, hm0, ?_⟩
        exact q (cell % m) _ (Int.emod_nonneg _ (by omega)) (Int.emod_lt_of_pos _ hm0) b2 ⟨a + 1, cell / m, u, upd_same, hc2, hne, by omega⟩
      rotate_left 1
      refine iteF ?_
      rotate_left 1
      all_goals
        refine ⟨_, rfl, d, .int u, rfl, DGet.k (k := Sum.inr "used") hd1, _, 1, rfl, rfl, _, rfl, d, _, rfl, DPut.k (k := Sum.inr "used") hd1 (show 4 < sizeLine by decide), ?_⟩
        rw [dp_used, show ((u : Nat) : Int) + 1 = ((u + 1 : Nat) : Int) by omega]
        have b2 : But d H (upd H1 d (.dK (drawD c ((a + 1 : Nat) : Int) l ((u + 1 : Nat) : Int)))) := b1.trans but_upd
        have hc2 := (b2.fix hd (fun z => z)).seqL hc
        have hd2 : (upd H1 d (.dK (drawD c ((a + 1 : Nat) : Int) l ((u + 1 : Nat) : Int)))) d = some (.dK (drawD c ((a + 1 : Nat) : Int) l ((u + 1 : Nat) : Int))) := upd_same
        generalize upd H1 d (.dK (drawD c ((a + 1 : Nat) : Int) l ((u + 1 : Nat) : Int))) = H2 at b2 hc2 hd2 ⊢
        refine ⟨_, rfl, _, 1000000007, rfl, rfl, (by show (0 : Int) < _; decide), _, rfl, d, .int ((u + 1 : Nat) : Int), rfl, DGet.k (k := Sum.inr "used") hd2, 7919, _, rfl, rfl, .inl (by decide), _, rfl, d, .int ((u + 1 : Nat) : Int), rfl, DGet.k (k := Sum.inr "used") hd2, _, _, rfl, rfl, .inr ⟨by omega, by omega⟩, _, _, rfl, rfl, ?_⟩
        refine ⟨_, rfl, d, .int ((a + 1 : Nat) : Int), rfl, DGet.k (k := Sum.inr "at") hd2, _, rfl, d, .int ((u + 1 : Nat) : Int), rfl, DGet.k (k := Sum.inr "used") hd2, size2, fun p np => ⟨p, rfl, ⟨_, .of upd_same⟩, ?_⟩⟩
        have s3 := same_new (o := .tup [V.int ((a + 1 : Nat) : Int), V.int ((u + 1 : Nat) : Int)]) np
        have e3 : SqT K (upd H2 p (.tup [V.int ((a + 1 : Nat) : Int), V.int ((u + 1 : Nat) : Int)])) p [V.int ((a + 1 : Nat) : Int), V.int ((u + 1 : Nat) : Int)] := .of upd_same
        have hd3 := s3 _ _ hd2
        have hc3 := (same_fix s3).seqL hc2
        have b3 := b2.trans (same_but s3)
        generalize upd H2 p (.tup [V.int ((a + 1 : Nat) : Int), V.int ((u + 1 : Nat) : Int)]) = H3 at s3 e3 hd3 hc3 b3 ⊢
        refine for_tup (xs := [V.int ((a + 1 : Nat) : Int), V.int ((u + 1 : Nat) : Int)]) (fun i σ' H' => H' = H3 ∧ ∃ (x : Int) (y : Option V), σ' = [some (.ref d), some (.int m), some (.int cell), some (.ref c), some (.int x), y]) ⟨rfl, _, _, rfl⟩ (fun i σ' H' _ z => by rw [z.1]; exact e3) ?_ ?_
        · rintro i x σ' H4 ex ⟨rfl, x0, y, rfl⟩
          obtain ⟨z, rfl⟩ : ∃ z : Int, x = .int z := by
            match i, ex with
            | 0, ex => exact ⟨_, (Option.some.inj ex).symm⟩
            | 1, ex => exact ⟨_, (Option.some.inj ex).symm⟩
          refine ⟨_, rfl, _, rfl, 31, z, rfl, rfl, .inl (by decide), _, _, rfl, rfl, _, _, rfl, rfl, _, 48271, rfl, rfl, .inr (by decide), _, 2147483647, rfl, rfl, (by show (0 : Int) < _; decide), ?_⟩
          refine ⟨_, rfl, _, rfl, _, 1000, rfl, rfl, (by show (0 : Int) < _; decide), 2, _, rfl, rfl, .inl (by decide), _, _, rfl, rfl, _, _, rfl, rfl, .inr ⟨by omega, by omega⟩, _, 2147483629, rfl, rfl, (by show (0 : Int) < _; decide), ?_⟩
          exact ⟨rfl, _, _, rfl⟩
        · rintro σ' H4 ⟨rfl, x0, y, rfl⟩
          refine ⟨_, rfl, _, 7, rfl, rfl, ⟨by decide, by decide⟩, _, rfl, _, _, rfl, rfl, hm0, ?_⟩
          exact q _ _ (Int.emod_nonneg _ (by omega)) (Int.emod_lt_of_pos _ hm0) b3 ⟨a + 1, l, u + 1, hd3, hc3, hne, by omega⟩
end
end K33
/-! The draw: _law_pick, _law_some, _law_deed. -/
namespace K33
open PySem PySem.Spec PyProof.Rows L2
theorem Rising.take {ns : List Int} {m : Int} (h : Rising ns m) (k : Nat) : Rising (ns.take k) m := ⟨fun n hn => h.1 n (List.mem_of_mem_take hn), h.2.sublist (List.take_sublist _ _)⟩
theorem Rising.snoc {ns : List Int} {i : Nat} (h : Rising ns i) : Rising (ns ++ [(i : Int)]) ((i + 1 : Nat) : Int) := by
  refine ⟨fun n hn => ?_, ?_⟩
  · rcases List.mem_append.mp hn with h1 | h1
    · have := h.1 n h1
      omega
    · rw [List.mem_singleton.mp h1]
      omega
  · rw [List.pairwise_append]
    refine ⟨h.2, List.pairwise_singleton _ _, fun a ha b hb => ?_⟩
    rw [List.mem_singleton.mp hb]
    exact (h.1 a ha).2
theorem Rising.up {ns : List Int} {m k : Int} (h : Rising ns m) (l : m ≤ k) : Rising ns k := ⟨fun n hn => by have := h.1 n hn; omega, h.2⟩
theorem walk_rng (n : Nat) : Walk (Itr 0 ((n : Int)).toNat) n (fun _ => True) (YFn fun i => V.int (i : Nat)) := by
  rw [Int.toNat_natCast]
  exact ⟨fun i H hi _ => hi, fun _ _ => Nat.le_refl _, fun i H x H' _ _ y => ⟨y.1, by rw [y.2, Int.zero_add]⟩⟩
/-- l[:n] -/
theorem linit_of {K : PySem.W.Frag} {H : Hp} {a : Addr} {xs : List V} {n : Nat} {Q : VK} (h : SqL K H a xs) (q : ∀ b, H b = none → Q (.ref b) (upd H b (.lst (xs.take n)))) : rSlL K (.ref a) none (some (n : Int)) H Q := by
  refine ⟨a, xs, rfl, h, fun p np => ?_⟩
  have e : cutV xs none (some (n : Int)) = xs.take n := by
    have e1 : HT.sIx xs.length xs.length (some (n : Int)) = min n xs.length := HT.sIx_nat _ _ n
    unfold cutV
    rw [e1, HT.sIx_none, List.drop_zero, Nat.sub_zero]
    by_cases hn : n ≤ xs.length
    · rw [Nat.min_eq_left hn]
    · rw [Nat.min_eq_right (by omega), List.take_length, List.take_of_length_le (by omega)]
  rw [e]
  exact q p np
def spPick (K : PySem.W.Frag) : Sp := fun vs H Q _ => ∃ (d l : Addr) (xs : List V) (g : Addr × List Int) (n : Nat), vs = [.ref d, .ref l] ∧ Draw K H d g n ∧ SqL K H l xs ∧ xs ≠ [] ∧ xs.length ≤ 1000 ∧ n ≤ 1000000 ∧ ∀ (i : Nat) (v : V) H', xs[i]? = some v → But d H H' → Draw K H' d g (n + 1) → Q v H'
def spSomeD (K : PySem.W.Frag) : Sp := fun vs H Q _ => ∃ (d : Addr) (g : Addr × List Int) (many most n : Nat), vs = [.ref d, .int many, .int most] ∧ Draw K H d g n ∧ many ≤ 100 ∧ n + many ≤ 1000000 ∧ ∀ (ns : List Int) t H', Rising ns many → ns.length ≤ most → But d H H' → Draw K H' d g (n + many) → SqT K H' t (ns.map V.int) → Q (.ref t) H'
abbrev N_sm : List Str := ["_law_draw", "_law_many", "_law_most", "_law_k"]
theorem sc_pick : FnScope ["_law_draw", "_law_some_here"] ["_law_draw", "_law_some_here"] (defScope s_law_pick) := ⟨rfl, rfl, rfl, by decide +kernel, rfl, by decide +kernel, by decide +kernel⟩
theorem sc_sm : FnScope N_sm ["_law_draw", "_law_many", "_law_most"] (defScope s_law_some) := ⟨rfl, rfl, rfl, by decide +kernel, rfl, by decide +kernel, by decide +kernel⟩
section
variable {P : Program} {w : World} {K : PySem.W.Frag} {mg : Str → Option Value} {base : Heap}
theorem cal_pick (T : Txt K mg) : C8.Cal P w K mg base 2 "_law_pick" (spPick K) [] := by
  refine T.cal at_law_pick at_law_pick rfl rfl sc_pick (fun _ _ _ _ _ _ us hl => match us, hl with | [_, _], _ => rfl) (fun vs H Q E h => ?_) (fun f cdv A outer s H vs Q E hr h => ?_)
  · obtain ⟨d, l, xs, g, n, rfl, _⟩ := h
    rfl
  · obtain ⟨d, l, xs, g, n, rfl, hD, hS, hne, hl, hn, q⟩ := h
    refine ⟨_, pss_one (ps_ret (pe_ix ix_list (pv 1) (C8.pe_c (cal_next T) hr (by decide) (by rfl) (pa_cons (pv 0) (pa_cons (pe_callB call_len_seq (by rfl) T.m_len bt_len (pa_cons (pv 1) pa_nil)) pa_nil))) (fun _ _ => rfl))), ?_⟩
    have hpos := List.length_pos_iff.mpr hne
    refine ⟨_, rfl, _, rfl, _, rfl, l, xs, rfl, .inl hS, d, _, g, n, rfl, hD, ⟨by omega, by omega⟩, hn, fun r H' r0 r1 b D' => ?_⟩
    have hlt : r.toNat < xs.length := by omega
    have er := List.getElem?_eq_getElem hlt
    refine ⟨l, xs, r, xs[r.toNat], rfl, rfl, (hD.fix b).seqL hS, ?_, q r.toNat _ H' er b D'⟩
    exact at_of (j := r.toNat) (by omega) er
theorem cal_someD (T : Txt K mg) : C8.Cal P w K mg base 2 "_law_some" (spSomeD K) [] := by
  refine T.cal at_law_some at_law_some rfl rfl sc_sm (fun _ _ _ _ _ _ us hl => match us, hl with | [_, _, _], _ => rfl) (fun vs H Q E h => ?_) (fun f cdv A outer s H vs Q E hr h => ?_)
  · obtain ⟨d, g, many, most, n, rfl, _⟩ := h
    rfl
  · obtain ⟨d, g, many, most, n, rfl, hD, hm, hn, q⟩ := h
    refine ⟨_, pss_one (ps_ret (pe_tupleOf (by rfl) T.m_tuple (pe_slice sl_list (pe_lc (own := [("_law_k", 3)]) (g := gName 3) (tt := tTest (tOp rEq (tCall (spNextL K) [] C8.E0 (tCons (tVar 0) (tCons (tC (.int 2)) tNil))) (tC (.int 0)))) (te := tVar 3) rfl sc_sm.nd (pi_range1 (by rfl) T.m_range (pa_cons (pv 1) pa_nil)) (blkOk_by (N := N_sm) (sc := defScope s_law_some) (by decide +kernel))
      (fun _ _ _ _ _ => pg_name (i := 3) sc_sm.nd rfl (.inl rfl)) (fun _ _ _ _ _ => pts_one (pt_cmpR op_eq (C8.pe_c (cal_next T) hr (by decide) (by rfl) (pa_cons (pv 0) (pa_cons pe_int pa_nil))) pe_int (nomark _))) (fun _ _ _ _ _ => pv 3)) po_none (po_some (pv 2))))), ?_⟩
    refine ⟨_, rfl, many, rfl, by omega, by omega, fun D nD => ?_⟩
    have nDd := hD.ne nD
    refine lc_it (G := fun _ => True) (n := many) (walk_rng many) (fun i H' => But d H H' ∧ Draw K H' d g (n + i) ∧ ∃ ns, H' D = some (.lst (ns.map V.int)) ∧ Rising ns i ∧ ns.length ≤ i) ?_ (fun _ _ _ _ => trivial) ?_ ?_
    · have s1 := same_new (o := .lst []) nD
      exact ⟨same_but s1, hD.same s1, [], upd_same, ⟨fun n hn => (List.not_mem_nil hn).elim, List.Pairwise.nil⟩, Nat.zero_le _⟩
    · rintro i x H1 H2 hi ⟨b1, D1, ns, eD, hR, hl⟩ ⟨rfl, rfl⟩
      refine ⟨rfl, _, rfl, d, 2, g, n + i, rfl, D1, ⟨by decide, by decide⟩, by omega, fun r H3 r0 r1 b3 D3 => ⟨rfl, _, rfl, ?_⟩⟩
      have e3 := b3 _ _ nDd eD
      refine andC (fun hc => ?_) (fun hc => ?_)
      · refine ⟨_, rfl, _, e3, small (by rw [List.length_map]; omega), ?_⟩
        have bb : But d H (upd H3 D (.lst (ns.map V.int ++ [.int i]))) := fun b o hb e => by
          rw [upd_ne (ne_of_none e nD)]
          exact b3 b o hb (b1 b o hb e)
        refine ⟨bb, hD.put nD D3 bb, ns ++ [(i : Int)], ?_, hR.snoc, by rw [List.length_append, List.length_singleton]; omega⟩
        · rw [upd_same, List.map_append]
          rfl
      · exact ⟨b1.trans b3, D3.mono (by omega), ns, e3, hR.up (by omega), by omega⟩
    · rintro H1 ⟨b1, D1, ns, eD, hR, hl⟩
      refine ⟨_, rfl, most, rfl, linit_of (.of eD) fun b nb => .inl ⟨b, _, rfl, .of upd_same, fun t nt => ?_⟩⟩
      have s2 := (same_new (o := .lst ((ns.map V.int).take most)) nb).trans (same_new (o := .tup ((ns.map V.int).take most)) nt)
      refine q (ns.take most) t _ (hR.take _) (by rw [List.length_take]; omega) (b1.trans (same_but s2)) (D1.same s2) ?_
      rw [List.map_take]
      exact .of upd_same
end
end K33
/-! The draw: _law_deed. -/
namespace K33
open PySem PySem.Spec PyProof.Rows L2
def spDeedL (K : PySem.W.Frag) : Sp := fun vs H Q _ => ∃ (d : Addr) (m : Bool) (o L : Nat) (g : Addr × List Int) (n : Nat), vs = [.ref d, .str (kindS m), .int o, .int L] ∧ Draw K H d g n ∧ o < L ∧ L ≤ 9 ∧ n + 2 ≤ 1000000 ∧
  ∀ (dd : Deed) t H', DeedOk m o L dd → But d H H' → Draw K H' d g (n + 2) → SqT K H' t (dd.w.map W.v) → Q (.ref t) H'
abbrev N_dl : List Str := ["_law_draw", "_law_kind", "_law_own", "_law_lines", "_law_way", "_law_k"]
theorem sc_dl : FnScope N_dl ["_law_draw", "_law_kind", "_law_own", "_law_lines"] (defScope s_law_deed) := ⟨rfl, rfl, rfl, by decide +kernel, rfl, by decide +kernel, by decide +kernel⟩
def others (o i : Nat) : List Nat := (List.range i).filter fun k => decide (k ≠ o)
theorem others_succ (o i : Nat) : others o (i + 1) = others o i ++ (if i = o then [] else [i]) := by
  unfold others
  rw [List.range_succ, List.filter_append]
  congr 1
  by_cases h : i = o
  · rw [if_pos h]
    exact List.filter_cons_of_neg (by rw [h]; simp)
  · rw [if_neg h]
    exact List.filter_cons_of_pos (decide_eq_true h)
theorem others_len (o i : Nat) : (others o i).length ≤ i := by
  have := List.length_filter_le (fun k => decide (k ≠ o)) (List.range i)
  rw [List.length_range] at this
  exact this
theorem others_mem {o i k : Nat} : k ∈ others o i ↔ k < i ∧ k ≠ o := by
  unfold others
  rw [List.mem_filter, List.mem_range, decide_eq_true_iff]
section
variable {P : Program} {w : World} {K : PySem.W.Frag} {mg : Str → Option Value} {base : Heap}
theorem cal_deedL (T : Txt K mg) : C8.Cal P w K mg base 3 "_law_deed" (spDeedL K) [] := by
  refine T.cal at_law_deed at_law_deed rfl rfl sc_dl (fun _ _ _ _ _ _ us hl => match us, hl with | [_, _, _, _], _ => rfl) (fun vs H Q E h => ?_) (fun f cdv A outer s H vs Q E hr h => ?_)
  · obtain ⟨d, m, o, L, g, n, rfl, _⟩ := h
    rfl
  · obtain ⟨d, m, o, L, g, n, rfl, hD, ho, hL, hn, q⟩ := h
    refine ⟨_, pss_cons (ps_set (i := 4) sc_dl.nd rfl (Or.inl rfl) (C8.pe_c (cal_next T) hr (by decide) (by rfl) (pa_cons (pv 0) (pa_cons pe_int pa_nil))))
      (pss_cons (ps_if (pt_cmpR op_eq (pv 4) pe_int (nomark _)) (pss_one (ps_ret (pe_tup (pa_cons pe_str pa_nil)))) pss_nil)
      (pss_cons (ps_if (PW.pt (pw_and (pt_cmpR op_eq (pv 4) pe_int (nomark _)) (pw_and1 (pt_cmpR op_gt (pv 3) pe_int (nomark _)))))
        (pss_one (ps_ret (pe_tup (pa_cons pe_str (pa_cons (C8.pe_c (cal_pick T) hr (by decide) (by rfl) (pa_cons (pv 0) (pa_cons (pe_lc (own := [("_law_k", 5)]) (g := gName 5) (tt := tTest (tOp rNe (tVar 5) (tVar 2))) (te := tVar 5) rfl sc_dl.nd (pi_range1 (by rfl) T.m_range (pa_cons (pv 3) pa_nil)) (blkOk_by (N := N_dl) (sc := defScope s_law_deed) (by decide +kernel))
          (fun _ _ _ _ _ => pg_name (i := 5) sc_dl.nd rfl (.inl rfl)) (fun _ _ _ _ _ => pts_one (pt_cmpR op_ne (pv 5) (pv 2) (nomark _))) (fun _ _ _ _ _ => pv 5)) pa_nil))) pa_nil))))) pss_nil)
      (pss_cons (ps_if (pt_cmpR op_eq (pv 1) pe_str (nomark _)) (pss_one (ps_ret (pe_ifExp (pt_cmpR op_lt (pv 4) pe_int (nomark _)) (pe_tup (pa_cons pe_str pa_nil)) (pe_tup (pa_cons pe_str (pa_cons (C8.pe_c (cal_next T) hr (by decide) (by rfl) (pa_cons (pv 0) (pa_cons pe_int pa_nil))) pa_nil)))))) pss_nil)
      (pss_one (ps_ret (pe_tup (pa_cons (pe_ifExp (pt_cmpR op_lt (pv 4) pe_int (nomark _)) pe_str pe_str) (pa_cons (pe_op op_sub (C8.pe_c (cal_next T) hr (by decide) (by rfl) (pa_cons (pv 0) (pa_cons pe_int pa_nil))) pe_int) pa_nil)))))))), ?_⟩
    refine ⟨_, rfl, d, 6, g, n, rfl, hD, ⟨by decide, by decide⟩, by omega, fun way H1 w0 w6 b1 D1 => ?_⟩
    refine ⟨_, rfl, rfl, _, rfl, andC (fun h0 => ?_) (fun h0 => ?_)⟩
    · refine ⟨size1, fun t nt => ?_⟩
      have s2 := same_new (o := .tup [V.str "kept"]) nt
      exact q .kept t _ trivial (b1.trans (same_but s2)) ((D1.same s2).mono (by omega)) (.of upd_same)
    -- another line's
    refine ⟨_, rfl, rfl, _, rfl, andC (fun h1 => ?_) (fun h1 => ?_)⟩
    refine ⟨_, rfl, _, _, rfl, rfl, _, rfl, andC (fun h2 => ?_) (fun h2 => ?_)⟩
    · have hL1 : 1 < L := by
        have := of_decide_eq_true h2
        omega
      refine ⟨_, rfl, _, rfl, L, rfl, by omega, by omega, fun D nD => ?_⟩
      refine lc_it (G := fun _ => True) (n := L) (walk_rng L) (fun i H' => Same H1 H' ∧ H' D = some (.lst ((others o i).map fun k => V.int (k : Nat)))) ⟨same_new nD, upd_same⟩ (fun _ _ _ _ => trivial) ?_ ?_
      · rintro i x H2 H3 hi ⟨s2, eD⟩ ⟨rfl, rfl⟩
        refine ⟨rfl, _, rfl, _, rfl, rfl, _, rfl, andC (fun hc => ?_) (fun hc => ?_)⟩
        · have hio : i ≠ o := fun e => by
            rw [e] at hc
            simp at hc
          refine ⟨_, rfl, _, eD, small (by rw [List.length_map]; have := others_len o i; omega), same_at nD s2, ?_⟩
          rw [upd_same, others_succ, if_neg hio, List.map_append]
          rfl
        · have hio : i = o := by
            apply Classical.byContradiction
            intro e
            have : ¬ V.int (i : Nat) = V.int (o : Nat) := fun z => e (by have := V.int.inj z; omega)
            rw [decide_eq_false this] at hc
            cases hc
          refine ⟨s2, ?_⟩
          rw [others_succ, if_pos hio, List.append_nil]
          exact eD
      · rintro H2 ⟨s2, eD⟩
        have hne : (others o L).map (fun k => V.int (k : Nat)) ≠ [] := fun e => by
          have e := List.map_eq_nil_iff.mp e
          have : (if o = 0 then 1 else 0) ∈ others o L := by
            rw [others_mem]
            split <;> omega
          rw [e] at this
          cases this
        refine ⟨d, D, _, g, n + 1, rfl, D1.same s2, .of eD, hne, by rw [List.length_map]; have := others_len o L; omega, by omega, fun i v H3 ei b3 D3 => ?_⟩
        rw [List.getElem?_map] at ei
        cases hi : (others o L)[i]? with
        | none => rw [hi] at ei; cases ei
        | some k =>
          rw [hi] at ei
          obtain rfl := Option.some.inj ei
          have hk := others_mem.mp (List.mem_of_getElem? hi)
          refine ⟨size2, fun t nt => ?_⟩
          have s4 := same_new (o := .tup [V.str "as", V.int (k : Nat)]) nt
          exact q (.as_ k) t _ ⟨by omega, by omega, by omega⟩ (((b1.trans (same_but s2)).trans b3).trans (same_but s4)) ((D3.same s4).mono (by omega)) (.of upd_same)
    rotate_left 1
    refine iteF ?_
    rotate_left 1
    all_goals
      refine ⟨_, rfl, rfl, _, rfl, andC (fun h3 => ?_) (fun h3 => ?_)⟩
      · have hm : m = true := by
          cases m with
          | true => rfl
          | false => exact absurd (V.str.inj (of_decide_eq_true h3)) n_fader_mute
        subst hm
        refine ⟨_, rfl, _, _, rfl, rfl, _, rfl, andC (fun h4 => ?_) (fun h4 => ?_)⟩
        · refine ⟨size1, fun t nt => ?_⟩
          have s2 := same_new (o := .tup [V.str "turn"]) nt
          exact q .turn t _ rfl (b1.trans (same_but s2)) ((D1.same s2).mono (by omega)) (.of upd_same)
        · refine ⟨_, rfl, d, 2, g, n + 1, rfl, D1, ⟨by decide, by decide⟩, by omega, fun x H2 x0 x2 b2 D2 => ⟨size2, fun t nt => ?_⟩⟩
          have s3 := same_new (o := .tup [V.str "to", V.int x]) nt
          exact q (.to x) t _ (show 0 ≤ x ∧ x ≤ 1 from ⟨by omega, by omega⟩) ((b1.trans b2).trans (same_but s3)) (D2.same s3) (.of upd_same)
      · have hm : m = false := by
          cases m with
          | false => rfl
          | true => exact absurd rfl (of_decide_eq_false h3)
        subst hm
        refine ⟨_, rfl, _, _, rfl, rfl, _, rfl, andC (fun h4 => ?_) (fun h4 => ?_)⟩
        · refine ⟨_, rfl, d, 9, g, n + 1, rfl, D1, ⟨by decide, by decide⟩, by omega, fun x H2 x0 x9 b2 D2 => ⟨_, _, rfl, rfl, size2, fun t nt => ?_⟩⟩
          have s3 := same_new (o := .tup [V.str "by", V.int (x - 4)]) nt
          exact q (.by_ (x - 4)) t _ ⟨rfl, by omega, by omega⟩ ((b1.trans b2).trans (same_but s3)) (D2.same s3) (.of upd_same)
        · refine ⟨_, rfl, d, 9, g, n + 1, rfl, D1, ⟨by decide, by decide⟩, by omega, fun x H2 x0 x9 b2 D2 => ⟨_, _, rfl, rfl, size2, fun t nt => ?_⟩⟩
          have s3 := same_new (o := .tup [V.str "to", V.int (x - 4)]) nt
          exact q (.to (x - 4)) t _ (show -1000000 ≤ x - 4 ∧ x - 4 ≤ 1000000 from ⟨by omega, by omega⟩) ((b1.trans b2).trans (same_but s3)) (D2.same s3) (.of upd_same)
end
end K33
/-! The draw: _law_scene. -/
namespace K33
open PySem PySem.Spec PyProof.Rows L2
def allParts (L : Nat) : List (Bool × Nat) := (List.range L).map (fun k => (false, k)) ++ (List.range L).map (fun k => (true, k))
def pD (q : Bool × Nat) : PyData := partD q.1 (q.2 : Nat)
def PLt (a b : Bool × Nat) : Prop := (a.1 = false ∧ b.1 = true) ∨ (a.1 = b.1 ∧ a.2 < b.2)
theorem allParts_pw (L : Nat) : (allParts L).Pairwise PLt := by
  unfold allParts
  rw [List.pairwise_append]
  refine ⟨?_, ?_, ?_⟩
  · rw [List.pairwise_map]
    exact List.pairwise_lt_range.imp fun h => .inr ⟨rfl, h⟩
  · rw [List.pairwise_map]
    exact List.pairwise_lt_range.imp fun h => .inr ⟨rfl, h⟩
  · intro a ha b hb
    obtain ⟨_, _, rfl⟩ := List.mem_map.mp ha
    obtain ⟨_, _, rfl⟩ := List.mem_map.mp hb
    exact .inl ⟨rfl, rfl⟩
theorem allParts_mem {L : Nat} {q : Bool × Nat} (h : q ∈ allParts L) : q.2 < L := by
  unfold allParts at h
  rcases List.mem_append.mp h with h | h <;> (obtain ⟨k, hk, rfl⟩ := List.mem_map.mp h; exact List.mem_range.mp hk)
theorem allParts_len (L : Nat) : (allParts L).length = L + L := by
  unfold allParts
  rw [List.length_append, List.length_map, List.length_map, List.length_range]
theorem tupOnly_pD (q : Bool × Nat) : tupOnly (pD q) = true := tupOnly_ws _
theorem tupOnly_pDs (ps : List (Bool × Nat)) : tupOnlyAll (ps.map pD) = true := tupOnlyAll_iff.mpr fun d hd => by
  obtain ⟨u, _, rfl⟩ := List.mem_map.mp hd
  exact tupOnly_pD u
def spSceneL (K : PySem.W.Frag) : Sp := fun vs H Q _ => ∃ (d : Addr) (L most : Nat) (g : Addr × List Int) (n : Nat), vs = [.ref d, .int L, .int most] ∧ Draw K H d g n ∧ L ≤ 9 ∧ most ≤ 8 ∧ n + 40 ≤ 1000000 ∧
  ∀ (es : List Ent) t H', (∀ e ∈ es, EntOk L e) → es.Pairwise entLt → es.length ≤ most → But d H H' → Draw K H' d g (n + 40) → Dp K H' (.ref t) (scD es) → Q (.ref t) H'
abbrev N_sl : List Str := ["_law_draw", "_law_lines", "_law_most", "_law_k", "_law_parts", "_law_part", "_law_found", "_law_kind"]
theorem sc_sl : FnScope N_sl ["_law_draw", "_law_lines", "_law_most"] (defScope s_law_scene) := ⟨rfl, rfl, rfl, by decide +kernel, rfl, by decide +kernel, by decide +kernel⟩
section
variable {P : Program} {w : World} {K : PySem.W.Frag} {mg : Str → Option Value} {base : Heap}
theorem cal_sceneL (T : Txt K mg) : C8.Cal P w K mg base 4 "_law_scene" (spSceneL K) [] := by
  refine T.cal at_law_scene at_law_scene rfl rfl sc_sl (fun _ _ _ _ _ _ us hl => match us, hl with | [_, _, _], _ => rfl) (fun vs H Q E h => ?_) (fun f cdv A outer s H vs Q E hr h => ?_)
  · obtain ⟨d, L, most, g, n, rfl, _⟩ := h
    rfl
  · obtain ⟨d, L, most, g, n, rfl, hD, hL, hm, hn, q⟩ := h
    refine ⟨_, pss_cons (ps_set (i := 4) sc_sl.nd rfl (Or.inl rfl) (pe_op op_catL (pe_lc (own := [("_law_k", 3)]) (g := gName 3) (tt := tYes) (te := tTup (tCons (tC (.str "fader")) (tCons (tVar 3) tNil))) rfl sc_sl.nd (pi_range1 (by rfl) T.m_range (pa_cons (pv 1) pa_nil)) (blkOk_by (N := N_sl) (sc := defScope s_law_scene) (by decide +kernel))
          (fun _ _ _ _ _ => pg_name (i := 3) sc_sl.nd rfl (.inl rfl)) (fun _ _ _ _ _ => pts_nil) (fun _ _ _ _ _ => pe_tup (pa_cons pe_str (pa_cons (pv 3) pa_nil))))
        (pe_lc (own := [("_law_k", 3)]) (g := gName 3) (tt := tYes) (te := tTup (tCons (tC (.str "mute")) (tCons (tVar 3) tNil))) rfl sc_sl.nd (pi_range1 (by rfl) T.m_range (pa_cons (pv 1) pa_nil)) (blkOk_by (N := N_sl) (sc := defScope s_law_scene) (by decide +kernel))
          (fun _ _ _ _ _ => pg_name (i := 3) sc_sl.nd rfl (.inl rfl)) (fun _ _ _ _ _ => pts_nil) (fun _ _ _ _ _ => pe_tup (pa_cons pe_str (pa_cons (pv 3) pa_nil))))))
      (pss_cons (ps_set (i := 4) sc_sl.nd rfl (Or.inl rfl) (pe_slice sl_list (pe_lc (own := [("_law_part", 5)]) (g := gName 5) (tt := tTest (tOp rEq (tCall (spNextL K) [] C8.E0 (tCons (tVar 0) (tCons (tC (.int 3)) tNil))) (tC (.int 0)))) (te := tVar 5) rfl sc_sl.nd (pi_list (pv 4)) (blkOk_by (N := N_sl) (sc := defScope s_law_scene) (by decide +kernel))
          (fun _ _ _ _ _ => pg_name (i := 5) sc_sl.nd rfl (.inl rfl)) (fun _ _ _ _ _ => pts_one (pt_cmpR op_eq (C8.pe_c (cal_next T) hr (by decide) (by rfl) (pa_cons (pv 0) (pa_cons pe_int pa_nil))) pe_int (nomark _))) (fun _ _ _ _ _ => pv 5)) po_none (po_some (pv 2))))
      (pss_cons (ps_set (i := 6) sc_sl.nd rfl (Or.inl rfl) (pe_lst pa_nil))
      (pss_cons (ps_for PassesOwn.never rfl (pi_list (pv 4)) (pg_tup rfl (pgs_cons (pg_name (i := 7) sc_sl.nd rfl (.inl rfl)) (pgs_cons (pg_name (i := 3) sc_sl.nd rfl (.inl rfl)) pgs_nil)))
        (pss_one (ps_expr (pe_bm PySem.F.plainAttrs_list PySem.F.slot_list_append PySem.F.type_list_append mt_append (pv 6) (pa_cons (pe_tup (pa_cons (pe_tup (pa_cons (pv 7) (pa_cons (pv 3) pa_nil))) (pa_cons (C8.pe_c (cal_deedL T) hr (by decide) (by rfl) (pa_cons (pv 0) (pa_cons (pv 7) (pa_cons (pv 3) (pa_cons (pv 1) pa_nil))))) pa_nil))) pa_nil)))))
      (pss_one (ps_ret (pe_tupleOf (by rfl) T.m_tuple (pv 6))))))), ?_⟩
    -- the parts
    refine ⟨_, rfl, L, rfl, by omega, by omega, fun D1 nD1 => ?_⟩
    refine lc_data (K := K) (G := fun _ => True) (walk_rng L) (((List.range L).map fun k => (false, k)).map pD) (fun d hd => tupOnlyAll_iff.mp (tupOnly_pDs _) d hd) (by rw [List.length_map, List.length_map, List.length_range]) nD1 (by omega) (fun _ _ => trivial) ?_ ?_
    · rintro i x dd H1 H2 hi ed s1 ⟨rfl, rfl⟩ Qe Qf qe
      rw [List.getElem?_map, List.getElem?_map, List.getElem?_range hi] at ed
      obtain rfl := Option.some.inj ed
      exact ⟨rfl, ⟨_, rfl, size2, fun p np => qe _ _ (same_new np) (ws_dp (ws := [.s "fader", .i (i : Nat)]) (.of upd_same))⟩⟩
    intro H1 acc1 s1 e1 da1
    refine ⟨_, rfl, L, rfl, by omega, by omega, fun D2 nD2 => ?_⟩
    refine lc_data (K := K) (G := fun _ => True) (walk_rng L) (((List.range L).map fun k => (true, k)).map pD) (fun d hd => tupOnlyAll_iff.mp (tupOnly_pDs _) d hd) (by rw [List.length_map, List.length_map, List.length_range]) nD2 (by omega) (fun _ _ => trivial) ?_ ?_
    · rintro i x dd H2 H3 hi ed s2 ⟨rfl, rfl⟩ Qe Qf qe
      rw [List.getElem?_map, List.getElem?_map, List.getElem?_range hi] at ed
      obtain rfl := Option.some.inj ed
      exact ⟨rfl, ⟨_, rfl, size2, fun p np => qe _ _ (same_new np) (ws_dp (ws := [.s "mute", .i (i : Nat)]) (.of upd_same))⟩⟩
    intro H2 acc2 s2 e2 da2
    have l1 := dpAll_len da1
    have l2 := dpAll_len da2
    rw [List.length_map, List.length_map, List.length_range] at l1 l2
    refine ⟨D1, D2, acc1, acc2, rfl, rfl, .of (s2 _ _ e1), .of e2, Nat.le_of_lt (small (by omega)), fun P1 nP1 => ?_⟩
    have s3 := same_new (o := .lst (acc1 ++ acc2)) nP1
    have dall : DpAll K (upd H2 P1 (.lst (acc1 ++ acc2))) (acc1 ++ acc2) ((allParts L).map pD) := by
      unfold allParts
      rw [List.map_append]
      exact dpAll_app (DpAll.fix (same_fix (s2.trans s3)) _ _ da1) (DpAll.fix (same_fix s3) _ _ da2)
    have s03 := (s1.trans s2).trans s3
    have eP : (upd H2 P1 (.lst (acc1 ++ acc2))) P1 = some (.lst (acc1 ++ acc2)) := upd_same
    generalize upd H2 P1 (.lst (acc1 ++ acc2)) = H3 at dall s03 eP ⊢
    generalize acc1 ++ acc2 = xs at dall eP
    clear da1 da2 e1 e2 s1 s2 s3 l1 l2 nD1 nD2
    have D3 := hD.same s03
    have lxs := dpAll_len dall
    rw [List.length_map, allParts_len] at lxs
    -- some of them
    refine ⟨_, rfl, P1, rfl, ⟨_, .of eP⟩, fun D nD => ?_⟩
    have nDd := D3.ne nD
    refine lc_it (G := fun H => SqL K H P1 xs) (n := xs.length) walk_list (fun i H' => But d H3 H' ∧ Draw K H' d g (n + i) ∧ ∃ acc, ∃ ps : List (Bool × Nat), H' D = some (.lst acc) ∧ DpAll K H' acc (ps.map pD) ∧ ps.Sublist ((allParts L).take i)) ?_ (fun i H' _ p => (D3.fix p.1).seqL (.of eP)) ?_ ?_
    · have s1 := same_new (o := .lst []) nD
      exact ⟨same_but s1, D3.same s1, [], [], upd_same, .nil, List.nil_sublist _⟩
    · rintro i x H4 H5 hi ⟨b4, D4, acc, ps, eD, da, hsub⟩ ⟨rfl, ex⟩
      have hi2 : i < (allParts L).length := by
        rw [allParts_len]
        omega
      refine ⟨rfl, _, rfl, d, 3, g, n + i, rfl, D4, ⟨by decide, by decide⟩, by omega, fun r H6 r0 r1 b6 D6 => ⟨rfl, _, rfl, ?_⟩⟩
      have e6 := b6 _ _ nDd eD
      have da6 := DpAll.fix (D4.fix b6) _ _ da
      have take1 : (allParts L).take (i + 1) = (allParts L).take i ++ [(allParts L)[i]] := List.take_succ_eq_append_getElem hi2
      refine andC (fun hc => ?_) (fun hc => ?_)
      · have lacc := dpAll_len da
        rw [List.length_map] at lacc
        have lsub := hsub.length_le
        rw [List.length_take] at lsub
        refine ⟨_, rfl, _, e6, small (by omega), ?_⟩
        have bb : But d H3 (upd H6 D (.lst (acc ++ [x]))) := fun b o hb e => by
          rw [upd_ne (ne_of_none e nD)]
          exact b6 b o hb (b4 b o hb e)
        obtain ⟨dd, ed, dx⟩ := dpAll_at (DpAll.fix ((D3.fix bb)) _ _ dall) ex
        rw [List.getElem?_map, List.getElem?_eq_getElem hi2] at ed
        obtain rfl := Option.some.inj ed
        refine ⟨bb, D3.put nD D6 bb, acc ++ [x], ps ++ [(allParts L)[i]], upd_same, ?_, ?_⟩
        · rw [List.map_append]
          exact dpAll_app (DpAll.fixT (fixT_lst e6) _ _ (tupOnly_pDs _) da6) (.cons dx .nil)
        · rw [take1]
          exact hsub.append (List.Sublist.refl _)
      · refine ⟨b4.trans b6, D6.mono (by omega), acc, ps, e6, da6, ?_⟩
        rw [take1]
        exact hsub.trans (List.sublist_append_left _ _)
    rintro H4 ⟨b4, D4, acc, ps, eD, da, hsub⟩
    have D4 := D4.mono (show n + xs.length ≤ n + (L + L) by omega)
    rw [lxs, List.take_of_length_le (by rw [allParts_len]; omega)] at hsub
    have b04 := (same_but s03).trans b4
    refine ⟨_, rfl, most, rfl, linit_of (.of eD) fun P2 nP2 => ?_⟩
    have s5 := same_new (o := .lst (acc.take most)) nP2
    have da5 := dpAll_take most (DpAll.fix (same_fix s5) _ _ da)
    rw [← List.map_take] at da5
    have hsub5 := (List.take_sublist most ps).trans hsub
    have len5 : (ps.take most).length ≤ most := by
      rw [List.length_take]
      omega
    have D5 := D4.same s5
    have eP2 : (upd H4 P2 (.lst (acc.take most))) P2 = some (.lst (acc.take most)) := upd_same
    have b05 := b04.trans (same_but s5)
    generalize upd H4 P2 (.lst (acc.take most)) = H5 at s5 da5 D5 eP2 b05 ⊢
    generalize acc.take most = ys at da5 eP2
    generalize ps.take most = qs at da5 hsub5 len5
    clear da hsub eD D4 b4 b04 dall eP D3 s03 lxs s5 nD nDd
    have pw : qs.Pairwise PLt := (allParts_pw L).sublist hsub5
    have inL : ∀ q ∈ qs, q.2 < L := fun q hq => allParts_mem (hsub5.subset hq)
    have lys := dpAll_len da5
    rw [List.length_map] at lys
    -- the entries
    refine ⟨size0, fun F nF => ?_⟩
    have s6 := same_new (o := .lst []) nF
    have nFd := D5.ne nF
    refine ⟨_, rfl, P2, rfl, ⟨_, .of (s6 _ _ eP2)⟩, ?_⟩
    refine for_list (xs := ys) (fun i σ' H' => (∃ x3 x7, σ' = [some (.ref d), some (.int L), some (.int most), x3, some (.ref P2), none, some (.ref F), x7]) ∧ But d H5 H' ∧ Draw K H' d g (n + (L + L) + 2 * i) ∧ ∃ acc, ∃ es : List Ent, H' F = some (.lst acc) ∧ DpAll K H' acc (es.map Ent.d) ∧ es.map (fun e => (e.mute, e.line)) = (qs.take i).map (fun q => (q.1, (q.2 : Int))) ∧ ∀ e ∈ es, EntOk L e)
      ⟨⟨_, _, rfl⟩, same_but s6, (D5.same s6).mono (by omega), [], [], upd_same, .nil, rfl, fun e he => by cases he⟩ (fun i σ' H' _ p => (D5.fix p.2.1).seqL (.of eP2)) ?_ ?_
    · rintro i x σ' H6 ex ⟨⟨x3, x7, rfl⟩, b6, D6, acc, es, eF, da, hes, hok⟩
      have hi : i < qs.length := by rw [← lys]; exact (List.getElem?_eq_some_iff.mp ex).1
      obtain ⟨dd, ed, dx⟩ := dpAll_at (DpAll.fix (D5.fix b6) _ _ da5) ex
      rw [List.getElem?_map, List.getElem?_eq_getElem hi] at ed
      obtain rfl := Option.some.inj ed
      obtain ⟨pa, rfl, hpa⟩ := dp_ws dx
      have hq := inL qs[i] (List.getElem_mem hi)
      have lacc := dpAll_len da
      have les := congrArg List.length hes
      rw [List.length_map] at lacc
      rw [List.length_map, List.length_map, List.length_take] at les
      refine ⟨pa, _, rfl, hpa, rfl, _, _, rfl, _, _, rfl, ⟨rfl, ?_⟩⟩
      refine ⟨_, rfl, .inl ⟨rfl, _, .of eF⟩, _, rfl, _, rfl, size2, fun p1 np1 => ?_⟩
      have s7 := same_new (o := .tup [V.str (kindS qs[i].1), V.int (qs[i].2 : Nat)]) np1
      have D7 := D6.same s7
      refine ⟨_, rfl, _, rfl, _, rfl, _, rfl, d, qs[i].1, qs[i].2, L, g, _, rfl, D7, hq, hL, by omega, fun dd t H8 hdd b8 D8 ht => ⟨size2, fun p2 np2 => ?_⟩⟩
      have s9 := same_new (o := .tup [V.ref p1, V.ref t]) np2
      have e9 : (upd H8 p2 (.tup [V.ref p1, V.ref t])) F = some (.lst acc) := s9 _ _ (b8 _ _ nFd (s7 _ _ eF))
      refine ⟨F, acc, _, rfl, rfl, e9, small (by omega), ?_⟩
      have bb : But d H5 (upd (upd H8 p2 (.tup [V.ref p1, V.ref t])) F (.lst (acc ++ [.ref p2]))) := fun b o hb e => by
        rw [upd_ne (ne_of_none e nF)]
        exact s9 _ _ (b8 b o hb (s7 _ _ (b6 b o hb e)))
      have de : Dp K (upd H8 p2 (.tup [V.ref p1, V.ref t])) (.ref p2) (Ent.d ⟨qs[i].1, (qs[i].2 : Nat), dd⟩) :=
        ent_dp (e := ⟨qs[i].1, (qs[i].2 : Nat), dd⟩) (.of upd_same) ((same_fix s9).seqT ((D7.fix b8).seqT (.of upd_same))) ((same_fix s9).seqT ht)
      have da9 := DpAll.fix (same_fix s9) _ _ (DpAll.fix (D7.fix b8) _ _ (DpAll.fix (same_fix s7) _ _ da))
      refine ⟨⟨_, _, rfl⟩, bb, (D5.put nF (D8.same s9) bb).mono (by omega), acc ++ [.ref p2], es ++ [⟨qs[i].1, (qs[i].2 : Nat), dd⟩], upd_same, ?_, ?_, ?_⟩
      · rw [List.map_append]
        exact dpAll_app (DpAll.fixT (fixT_lst e9) _ _ (tupOnly_ents _) da9) (.cons (Dp.fixT (fixT_lst e9) _ _ (tupOnly_ent _) de) .nil)
      · rw [List.take_succ_eq_append_getElem hi, List.map_append, List.map_append, hes]
        rfl
      · intro e he
        rcases List.mem_append.mp he with he | he
        · exact hok e he
        · rw [List.mem_singleton.mp he]
          exact ⟨by show (0 : Int) ≤ (qs[i].2 : Nat); omega, by show ((qs[i].2 : Nat) : Int) < L; omega, hdd⟩
    · rintro σ' H6 ⟨⟨x3, x7, rfl⟩, b6, D6, acc, es, eF, da, hes, hok⟩
      rw [lys, List.take_length] at hes
      have les := congrArg List.length hes
      rw [List.length_map, List.length_map] at les
      refine ⟨_, rfl, .inl ⟨F, acc, rfl, .of eF, fun t nt => ?_⟩⟩
      have s9 := same_new (o := .tup acc) nt
      refine q es t _ hok ?_ (by omega) ((b05.trans b6).trans (same_but s9)) ((D6.same s9).mono (by omega)) (.tup (.of upd_same) (DpAll.fix (same_fix s9) _ _ da))
      have pw2 : (es.map (fun e => (e.mute, e.line))).Pairwise (fun a b : Bool × Int => (a.1 = false ∧ b.1 = true) ∨ (a.1 = b.1 ∧ a.2 < b.2)) := by
        rw [hes, List.pairwise_map]
        refine pw.imp fun h => ?_
        rcases h with h | ⟨h1, h2⟩
        · exact .inl h
        · exact .inr ⟨h1, by omega⟩
      rw [List.pairwise_map] at pw2
      exact pw2
end
end K33
/-! The draw: _law_tame. -/
namespace K33
open PySem PySem.Spec PyProof.Rows L2
def cnt (es : List Ent) : Nat := (es.filter isKept).length
theorem cnt_app (a b : List Ent) : cnt (a ++ b) = cnt a + cnt b := by
  unfold cnt
  rw [List.filter_append, List.length_append]
theorem cnt_one (e : Ent) : cnt [e] = if e.deed = .kept then 1 else 0 := by
  unfold cnt
  by_cases h : e.deed = .kept
  · rw [if_pos h, List.filter_cons_of_pos (show isKept e = true from decide_eq_true h)]
    rfl
  · rw [if_neg h, List.filter_cons_of_neg (by rw [isKept, decide_eq_false h]; decide)]
    rfl
theorem eqv_kept (d : Deed) : PyData.eqv (wsD d.w) (wsD [.s "kept"]) = decide (d = .kept) := by
  have ne : ∀ x : Str, x ≠ "kept" → (x == ("kept" : Str)) = false := fun x h => by
    cases hb : x == ("kept" : Str)
    · rfl
    · exact absurd (eq_of_beq hb) h
  cases d with
  | kept =>
    show PyData.eqv (.tuple [.str "kept"]) (.tuple [.str "kept"]) = true
    decide +kernel
  | turn =>
    show PyData.eqv (.tuple [.str "turn"]) (.tuple [.str "kept"]) = false
    decide +kernel
  | to x =>
    show PyData.eqv (.tuple [.str "to", .int x]) (.tuple [.str "kept"]) = false
    unfold PyData.eqv PyData.eqvAll
    rw [eqv_str, ne _ n_to_kept]
    rfl
  | by_ x =>
    show PyData.eqv (.tuple [.str "by", .int x]) (.tuple [.str "kept"]) = false
    unfold PyData.eqv PyData.eqvAll
    rw [eqv_str, ne _ n_by_kept]
    rfl
  | as_ x =>
    show PyData.eqv (.tuple [.str "as", .int x]) (.tuple [.str "kept"]) = false
    unfold PyData.eqv PyData.eqvAll
    rw [eqv_str, ne _ n_as_kept]
    rfl
theorem shaped_kept : SeqAt.shaped (wsD [.s "kept"]) = true := shaped_deed .kept
def ScOk (L : Int) (k : Nat) (sc : List Ent) : Prop := (∀ e ∈ sc, EntOk L e) ∧ sc.Pairwise entLt ∧ sc.length ≤ k
theorem pw_of {a b : List Ent} (h : a.map (fun e => (e.mute, e.line)) = b.map (fun e => (e.mute, e.line))) (p : b.Pairwise entLt) : a.Pairwise entLt := by
  have e : ∀ l : List Ent, l.Pairwise entLt ↔ (l.map (fun e => (e.mute, e.line))).Pairwise (fun a b : Bool × Int => (a.1 = false ∧ b.1 = true) ∨ (a.1 = b.1 ∧ a.2 < b.2)) := fun l => by
    rw [List.pairwise_map]
    exact Iff.rfl
  rw [e, h, ← e]
  exact p
def spTame (K : PySem.W.Frag) : Sp := fun vs H Q _ => ∃ (l : Addr) (xs : List V) (cs : List (List Ent)) (L : Int) (most : Nat), vs = [.ref l, .int most] ∧ SqL K H l xs ∧ DpAll K H xs (cs.map scD) ∧ cs.length ≤ 10 ∧ (∀ sc ∈ cs, ScOk L 10 sc) ∧
  ∀ (cs' : List (List Ent)) t H', Same H H' → cs'.length = cs.length → (∀ sc ∈ cs', ScOk L 10 sc) → cnt cs'.flatten ≤ most → Dp K H' (.ref t) (.tuple (cs'.map scD)) → Q (.ref t) H'
abbrev N_tm : List Str := ["_law_scenes", "_law_most", "_law_found", "_law_many", "_law_scene_here", "_law_rows", "_law_part", "_law_deed_here"]
theorem sc_tm : FnScope N_tm ["_law_scenes", "_law_most"] (defScope s_law_tame) := ⟨rfl, rfl, rfl, by decide +kernel, rfl, by decide +kernel, by decide +kernel⟩
section
variable {P : Program} {w : World} {K : PySem.W.Frag} {mg : Str → Option Value} {base : Heap}
theorem cal_tame (T : Txt K mg) : C8.Cal P w K mg base 1 "_law_tame" (spTame K) [] := by
  refine T.cal at_law_tame at_law_tame rfl rfl sc_tm (fun _ _ _ _ _ _ us hl => match us, hl with | [_, _], _ => rfl) (fun vs H Q E h => ?_) (fun f cdv A outer s H vs Q E hr h => ?_)
  · obtain ⟨l, xs, cs, L, most, rfl, _⟩ := h
    rfl
  · obtain ⟨l, xs, cs, L, most, rfl, hS, hd, h10, hok, q⟩ := h
    refine ⟨_, pss_cons (ps_par (i := 2) (j := 3) rfl sc_tm.nd rfl rfl (by decide) (by rfl) (by rfl) (pa_cons (pe_lst pa_nil) (pa_cons pe_int pa_nil)) (by rfl))
      (pss_cons (ps_for PassesOwn.never rfl (pi_list (pv 0)) (pg_name (i := 4) sc_tm.nd rfl (.inl rfl))
        (pss_cons (ps_set (i := 5) sc_tm.nd rfl (Or.inl rfl) (pe_lst pa_nil))
        (pss_cons (ps_for PassesOwn.never rfl (pi_tup (pv 4)) (pg_tup rfl (pgs_cons (pg_name (i := 6) sc_tm.nd rfl (.inl rfl)) (pgs_cons (pg_name (i := 7) sc_tm.nd rfl (.inl rfl)) pgs_nil)))
          (pss_cons (ps_set (i := 3) sc_tm.nd rfl (Or.inl rfl) (pe_op op_add (pv 3) (pe_callTy call_int1 (by rfl) T.m_int bt_int (pa_cons (pe_cmpR (op_eqD hr.units) (pv 7) (pe_tup (pa_cons pe_str pa_nil)) (nomark _)) pa_nil))))
          (pss_one (ps_expr (pe_bm PySem.F.plainAttrs_list PySem.F.slot_list_append PySem.F.type_list_append mt_append (pv 5) (pa_cons (pe_tup (pa_cons (pv 6) (pa_cons
            (pe_ifExp (PW.pt (pw_or (pt_cmpR (op_neD hr.units) (pv 7) (pe_tup (pa_cons pe_str pa_nil)) (nomark _)) (pw_or1 (pt_cmpR op_le (pv 3) (pv 1) (nomark _))))) (pv 7) (pe_tup (pa_cons pe_str (pa_cons pe_int pa_nil)))) pa_nil))) pa_nil))))))
        (pss_one (ps_expr (pe_bm PySem.F.plainAttrs_list PySem.F.slot_list_append PySem.F.type_list_append mt_append (pv 2) (pa_cons (pe_tupleOf (by rfl) T.m_tuple (pv 5)) pa_nil)))))))
      (pss_one (ps_ret (pe_tupleOf (by rfl) T.m_tuple (pv 2))))), ?_⟩
    have lxs := dpAll_len hd
    rw [List.length_map] at lxs
    refine ⟨size0, fun F nF => ⟨_, _, rfl, ?_⟩⟩
    have s0 := same_new (o := .lst []) nF
    refine ⟨_, rfl, l, rfl, ⟨_, (same_fix s0).seqL hS⟩, ?_⟩
    refine for_list (xs := xs) (fun i σ' H' => ∃ (x4 x5 x6 x7 : Option V) (c : Nat) (cs' : List (List Ent)) (acc : List V), σ' = [some (.ref l), some (.int most), some (.ref F), some (.int c), x4, x5, x6, x7] ∧ Same H H' ∧ H' F = some (.lst acc) ∧ DpAll K H' acc (cs'.map scD) ∧ cs'.length = i ∧ (∀ sc ∈ cs', ScOk L 10 sc) ∧ cnt cs'.flatten ≤ c ∧ cnt cs'.flatten ≤ most)
      ⟨none, none, none, none, 0, [], [], rfl, s0, upd_same, .nil, rfl, (fun sc h => by cases h), Nat.le_refl _, Nat.zero_le _⟩ (fun i σ' H' _ ⟨_, _, _, _, _, _, _, _, s1, _⟩ => (same_fix s1).seqL hS) ?_ ?_
    · rintro i x σ' H1 ex ⟨x4, x5, x6, x7, c, cs', acc, rfl, s1, eF, dA, hlc, hoks, hc1, hc2⟩
      have hi : i < cs.length := by rw [← lxs]; exact (List.getElem?_eq_some_iff.mp ex).1
      obtain ⟨dd, ed, dx⟩ := dpAll_at hd ex
      rw [List.getElem?_map, List.getElem?_eq_getElem hi] at ed
      obtain rfl := Option.some.inj ed
      obtain ⟨sa, ys, rfl, hys, dys⟩ := dp_tup dx
      obtain ⟨ok1, ok2, ok3⟩ := hok cs[i] (List.getElem_mem hi)
      have lys : ys.length = cs[i].length := by rw [dpAll_len dys, List.length_map]
      have lacc := dpAll_len dA
      rw [List.length_map] at lacc
      refine ⟨size0, fun R nR => ?_⟩
      have nRH := s1.free nR
      have s2 := same_new (o := .lst []) nR
      refine ⟨_, rfl, sa, rfl, ⟨_, (same_fix (s1.trans s2)).seqT hys⟩, ?_⟩
      refine for_tup (xs := ys) (fun j σ' H' => ∃ (x6 x7 : Option V) (c : Nat) (es : List Ent) (acc2 : List V), σ' = [some (.ref l), some (.int most), some (.ref F), some (.int c), some (.ref sa), some (.ref R), x6, x7] ∧ Same H H' ∧ Same H1 H' ∧ H' R = some (.lst acc2) ∧ DpAll K H' acc2 (es.map Ent.d) ∧ es.map (fun e => (e.mute, e.line)) = (cs[i].take j).map (fun e => (e.mute, e.line)) ∧ (∀ e ∈ es, EntOk L e) ∧ cnt cs'.flatten + cnt es ≤ c ∧ cnt cs'.flatten + cnt es ≤ most)
        ⟨x6, x7, c, [], [], rfl, s1.trans s2, s2, upd_same, .nil, rfl, (fun e h => by cases h), hc1, hc2⟩ (fun j σ' H' _ ⟨_, _, _, _, _, _, s3, _⟩ => (same_fix s3).seqT hys) ?_ ?_
      · rintro j x σ' H2 ex2 ⟨y6, y7, c2, es, acc2, rfl, s3, s13, eR, dR, hml, hoke, k1, k2⟩
        have hj : j < cs[i].length := by rw [← lys]; exact (List.getElem?_eq_some_iff.mp ex2).1
        obtain ⟨dd, ed2, dx2⟩ := dpAll_at (DpAll.fix (same_fix s3) _ _ dys) ex2
        rw [List.getElem?_map, List.getElem?_eq_getElem hj] at ed2
        obtain rfl := Option.some.inj ed2
        obtain ⟨t, p, q2, rfl, ht, hp, hq⟩ := dp_ent dx2
        have oke := ok1 cs[i][j] (List.getElem_mem hj)
        have lacc2 := dpAll_len dR
        rw [List.length_map] at lacc2
        have les := congrArg List.length hml
        rw [List.length_map, List.length_map, List.length_take] at les
        have tk : (cs[i].take (j + 1)).map (fun e => (e.mute, e.line)) = (cs[i].take j).map (fun e => (e.mute, e.line)) ++ [(cs[i][j].mute, cs[i][j].line)] := by
          rw [List.take_succ_eq_append_getElem hj, List.map_append]
          rfl
        generalize he : cs[i][j] = e at ht hp hq oke tk
        refine ⟨t, _, rfl, ht, rfl, _, _, rfl, _, _, rfl, ⟨rfl, ?_⟩⟩
        refine ⟨_, rfl, _, rfl, size1, fun p1 np1 => ?_⟩
        have s4 := same_new (o := .tup [V.str "kept"]) np1
        refine ⟨wsD e.deed.w, wsD [.s "kept"], ws_dp ((same_fix s4).seqT hq), ws_dp (ws := [.s "kept"]) (.of upd_same), shaped_deed _, shaped_kept, .inr ⟨_, rfl, _, _, rfl, rfl, ?_⟩⟩
        have eR4 := s4 _ _ eR
        have dR4 := DpAll.fix (same_fix s4) _ _ dR
        have co := cnt_one e
        by_cases hk : e.deed = .kept
        · rw [eqv_kept, decide_eq_true hk, if_pos rfl]
          rw [if_pos hk] at co
          refine ⟨_, rfl, .inl ⟨rfl, _, .of eR4⟩, _, rfl, _, rfl, size1, fun p2 np2 => ?_⟩
          have s5 := same_new (o := .tup [V.str "kept"]) np2
          have s45 := s4.trans s5
          refine ⟨wsD e.deed.w, wsD [.s "kept"], ws_dp ((same_fix s45).seqT hq), ws_dp (ws := [.s "kept"]) (.of upd_same), shaped_deed _, shaped_kept, _, rfl, ifF (by rw [eqv_kept, decide_eq_true hk]; rfl) ?_⟩
          refine ⟨_, rfl, _, rfl, _, _, rfl, rfl, _, rfl, andC (fun hle => ?_) (fun hle => ?_)⟩
          · have hle : (c2 : Int) + 1 ≤ most := of_decide_eq_true hle
            refine ⟨_, rfl, size2, fun p3 np3 => ?_⟩
            have s6 := same_new (o := .tup [V.ref p, V.ref q2]) np3
            have s46 := s45.trans s6
            have e6 := s46 _ _ eR
            refine ⟨R, acc2, _, rfl, rfl, e6, small (by omega), ?_⟩
            refine ⟨some (.ref p), some (.ref q2), c2 + 1, es ++ [e], acc2 ++ [.ref p3], ?_, same_at nRH (s3.trans s46), same_at nR (s13.trans s46), upd_same, ?_, ?_, ?_, ?_, ?_⟩
            · show [some (V.ref l), some (V.int most), some (V.ref F), some (V.int ((c2 : Int) + 1)), _, _, _, _] = _
              rw [show (c2 : Int) + 1 = ((c2 + 1 : Nat) : Int) by omega]
            · rw [List.map_append]
              exact dpAll_app (DpAll.fixT (fixT_lst e6) _ _ (tupOnly_ents _) (DpAll.fix (same_fix s46) _ _ dR)) (.cons (Dp.fixT (fixT_lst e6) _ _ (tupOnly_ent _) (ent_dp (.of upd_same) ((same_fix s46).seqT hp) ((same_fix s46).seqT hq))) .nil)
            · rw [tk, List.map_append, hml]
              rfl
            · intro z hz
              rcases List.mem_append.mp hz with hz | hz
              · exact hoke z hz
              · rw [List.mem_singleton.mp hz]
                exact oke
            · rw [cnt_app, co]
              omega
            · rw [cnt_app, co]
              omega
          · refine ⟨size2, fun p3 np3 => ⟨size2, fun p4 np4 => ?_⟩⟩
            have s6 := same_new (o := .tup [V.str "to", V.int 0]) np3
            have s7 := same_new (o := .tup [V.ref p, V.ref p3]) np4
            have s47 := (s45.trans s6).trans s7
            have e6 := s47 _ _ eR
            refine ⟨R, acc2, _, rfl, rfl, e6, small (by omega), ?_⟩
            have c0 : cnt [({ e with deed := .to 0 } : Ent)] = 0 := by
              rw [cnt_one, if_neg (fun z => by cases z)]
            refine ⟨some (.ref p), some (.ref q2), c2 + 1, es ++ [{ e with deed := .to 0 }], acc2 ++ [.ref p4], ?_, same_at nRH (s3.trans s47), same_at nR (s13.trans s47), upd_same, ?_, ?_, ?_, ?_, ?_⟩
            · show [some (V.ref l), some (V.int most), some (V.ref F), some (V.int ((c2 : Int) + 1)), _, _, _, _] = _
              rw [show (c2 : Int) + 1 = ((c2 + 1 : Nat) : Int) by omega]
            · rw [List.map_append]
              exact dpAll_app (DpAll.fixT (fixT_lst e6) _ _ (tupOnly_ents _) (DpAll.fix (same_fix s47) _ _ dR)) (.cons (Dp.fixT (fixT_lst e6) _ _ (tupOnly_ent _) (ent_dp (e := { e with deed := .to 0 }) (.of upd_same) ((same_fix s47).seqT hp) ((same_fix s7).seqT (.of upd_same)))) .nil)
            · rw [tk, List.map_append, hml]
              rfl
            · intro z hz
              rcases List.mem_append.mp hz with hz | hz
              · exact hoke z hz
              · rw [List.mem_singleton.mp hz]
                refine ⟨oke.1, oke.2.1, ?_⟩
                show (if e.mute = true then (0 : Int) ≤ 0 ∧ (0 : Int) ≤ 1 else -1000000 ≤ (0 : Int) ∧ (0 : Int) ≤ 1000000)
                split <;> decide
            · rw [cnt_app, c0]
              omega
            · rw [cnt_app, c0]
              omega
        · rw [eqv_kept, decide_eq_false hk, if_neg Bool.false_ne_true]
          rw [if_neg hk] at co
          refine ⟨_, rfl, .inl ⟨rfl, _, .of eR4⟩, _, rfl, _, rfl, size1, fun p2 np2 => ?_⟩
          have s5 := same_new (o := .tup [V.str "kept"]) np2
          have s45 := s4.trans s5
          refine ⟨wsD e.deed.w, wsD [.s "kept"], ws_dp ((same_fix s45).seqT hq), ws_dp (ws := [.s "kept"]) (.of upd_same), shaped_deed _, shaped_kept, _, rfl, ifT (by rw [eqv_kept, decide_eq_false hk]; rfl) ?_⟩
          refine iteT ⟨_, rfl, size2, fun p3 np3 => ?_⟩
          have s6 := same_new (o := .tup [V.ref p, V.ref q2]) np3
          have s46 := s45.trans s6
          have e6 := s46 _ _ eR
          refine ⟨R, acc2, _, rfl, rfl, e6, small (by omega), ?_⟩
          refine ⟨some (.ref p), some (.ref q2), c2, es ++ [e], acc2 ++ [.ref p3], ?_, same_at nRH (s3.trans s46), same_at nR (s13.trans s46), upd_same, ?_, ?_, ?_, ?_, ?_⟩
          · show [some (V.ref l), some (V.int most), some (V.ref F), some (V.int ((c2 : Int) + 0)), _, _, _, _] = _
            rw [Int.add_zero]
          · rw [List.map_append]
            exact dpAll_app (DpAll.fixT (fixT_lst e6) _ _ (tupOnly_ents _) (DpAll.fix (same_fix s46) _ _ dR)) (.cons (Dp.fixT (fixT_lst e6) _ _ (tupOnly_ent _) (ent_dp (.of upd_same) ((same_fix s46).seqT hp) ((same_fix s46).seqT hq))) .nil)
          · rw [tk, List.map_append, hml]
            rfl
          · intro z hz
            rcases List.mem_append.mp hz with hz | hz
            · exact hoke z hz
            · rw [List.mem_singleton.mp hz]
              exact oke
          · rw [cnt_app, co]
            omega
          · rw [cnt_app, co]
            omega
      · rintro σ' H2 ⟨y6, y7, c2, es, acc2, rfl, s3, s13, eR, dR, hml, hoke, k1, k2⟩
        rw [lys, List.take_length] at hml
        have les := congrArg List.length hml
        rw [List.length_map, List.length_map] at les
        have eF2 := s13 _ _ eF
        refine ⟨_, rfl, .inl ⟨rfl, _, .of eF2⟩, _, rfl, .inl ⟨R, acc2, rfl, .of eR, fun t nt => ?_⟩⟩
        have s4 := same_new (o := .tup acc2) nt
        have e4 := s4 _ _ eF2
        refine ⟨F, acc, _, rfl, rfl, e4, small (by omega), ?_⟩
        refine ⟨_, _, _, _, c2, cs' ++ [es], acc ++ [.ref t], rfl, same_at nF (s3.trans s4), upd_same, ?_, by rw [List.length_append, List.length_singleton, hlc], ?_, ?_, ?_⟩
        · rw [List.map_append]
          exact dpAll_app (DpAll.fixT (fixT_lst e4) _ _ (tupOnly_scs _) (DpAll.fix (same_fix (s13.trans s4)) _ _ dA)) (.cons (Dp.fixT (fixT_lst e4) _ _ (tupOnly_scD es) (.tup (.of upd_same) (DpAll.fix (same_fix s4) _ _ dR))) .nil)
        · intro sc hsc
          rcases List.mem_append.mp hsc with hsc | hsc
          · exact hoks sc hsc
          · rw [List.mem_singleton.mp hsc]
            exact ⟨hoke, pw_of hml ok2, by omega⟩
        · rw [List.flatten_append, cnt_app, List.flatten_singleton]
          exact k1
        · rw [List.flatten_append, cnt_app, List.flatten_singleton]
          exact k2
    · rintro σ' H1 ⟨x4, x5, x6, x7, c, cs', acc, rfl, s1, eF, dA, hlc, hoks, hc1, hc2⟩
      refine ⟨_, rfl, .inl ⟨F, acc, rfl, .of eF, fun t nt => ?_⟩⟩
      have s4 := same_new (o := .tup acc) nt
      exact q cs' t _ (s1.trans s4) (by omega) hoks hc2 (.tup (.of upd_same) (DpAll.fix (same_fix s4) _ _ dA))
end
end K33
/-! The draw: what sorted makes of gangs. -/
namespace K33
open PySem PySem.Spec PyProof.Rows L2
theorem le_ints : PySem.W.dataLe false dInts = fun p q => decide (p ≤ q) := by
  funext p q
  rw [PySem.W.dataLe_eq]
  show (!PySem.W.dataLt (.tuple (q.map PyData.int)) (.tuple (p.map PyData.int))) = decide (p ≤ q)
  rw [PySem.W.dataLt_tuple]
  show (!PySem.W.rowLt (q.map PyData.int) (p.map PyData.int)) = decide (p ≤ q)
  rw [PySem.W.dataLt_ints]
  by_cases h : q < p
  · rw [decide_eq_true h, decide_eq_false fun r => List.not_lt.mpr r h]
    rfl
  · rw [decide_eq_false h, decide_eq_true (List.not_lt.mp h)]
    rfl
theorem sort2 {a b : List Int} (hne : a ≠ b) : ∃ x y, [a, b].mergeSort (PySem.W.dataLe false dInts) = [x, y] ∧ ((x = a ∧ y = b) ∨ (x = b ∧ y = a)) ∧ x < y := by
  have hp := List.mergeSort_perm [a, b] (PySem.W.dataLe false dInts)
  have hl : ([a, b].mergeSort (PySem.W.dataLe false dInts)).length = 2 := by rw [List.length_mergeSort]; rfl
  have hs : ([a, b].mergeSort (PySem.W.dataLe false dInts)).Pairwise (fun p q => PySem.W.dataLe false dInts p q = true) := by
    refine List.pairwise_mergeSort (fun p q r h1 h2 => ?_) (fun p q => ?_) _
    · rw [le_ints] at h1 h2 ⊢
      exact decide_eq_true (List.le_trans (of_decide_eq_true h1) (of_decide_eq_true h2))
    · rw [le_ints]
      show (decide (p ≤ q) || decide (q ≤ p)) = true
      rcases List.le_total p q with h | h
      · rw [show decide (p ≤ q) = true from decide_eq_true h, Bool.true_or]
      · rw [show decide (q ≤ p) = true from decide_eq_true h, Bool.or_true]
  match hm : [a, b].mergeSort (PySem.W.dataLe false dInts), hl, hp, hs with
  | [x, y], _, hp, hs =>
    have le : x ≤ y := by
      have z := (List.pairwise_cons.mp hs).1 y List.mem_cons_self
      rw [le_ints] at z
      exact of_decide_eq_true z
    have hx : x = a ∨ x = b := by
      have := hp.mem_iff.mp (List.mem_cons_self (a := x) (l := [y]))
      simpa using this
    have hab : (x = a ∧ y = b) ∨ (x = b ∧ y = a) := by
      rcases hx with rfl | rfl
      · have h2 := (List.perm_cons x).mp hp
        exact .inl ⟨rfl, by simpa using h2.mem_iff.mp (List.mem_cons_self (a := y) (l := []))⟩
      · have h2 := (List.perm_cons x).mp (hp.trans (List.Perm.swap x a []))
        exact .inr ⟨rfl, by simpa using h2.mem_iff.mp (List.mem_cons_self (a := y) (l := []))⟩
    refine ⟨x, y, rfl, hab, ?_⟩
    have nxy : x ≠ y := by
      rcases hab with ⟨rfl, rfl⟩ | ⟨rfl, rfl⟩
      · exact hne
      · exact hne.symm
    apply Classical.byContradiction
    intro h
    exact nxy (List.le_antisymm le (List.not_lt.mp h))
theorem notIn_seq_ints {x : Int} {ns : List Int} : (!inV (.int x) (ns.map V.int)) = decide (x ∉ ns) := by
  by_cases h : x ∈ ns
  · rw [in_ints h, decide_eq_false fun z => z h]
    rfl
  · rw [notin_ints h, decide_eq_true h]
    rfl
end K33
/-! The draw: _law_show. -/
namespace K33
open PySem PySem.Spec PyProof.Rows L2
def restI (gg : List Int) (i : Nat) : List Int := ((List.range i).map fun k => ((k : Nat) : Int)).filter fun k => decide (k ∉ gg)
theorem restI_succ (gg : List Int) (i : Nat) : restI gg (i + 1) = restI gg i ++ (if (i : Int) ∈ gg then [] else [(i : Int)]) := by
  unfold restI
  rw [List.range_succ, List.map_append, List.filter_append]
  congr 1
  by_cases h : (i : Int) ∈ gg
  · rw [if_pos h]
    exact List.filter_cons_of_neg (by simp [h])
  · rw [if_neg h]
    exact List.filter_cons_of_pos (decide_eq_true h)
theorem restI_rising (gg : List Int) (L : Nat) : Rising (restI gg L) L := by
  refine ⟨fun n hn => ?_, ?_⟩
  · unfold restI at hn
    obtain ⟨h1, _⟩ := List.mem_filter.mp hn
    obtain ⟨k, hk, rfl⟩ := List.mem_map.mp h1
    have := List.mem_range.mp hk
    omega
  · unfold restI
    refine List.Pairwise.filter _ ?_
    rw [List.pairwise_map]
    exact List.pairwise_lt_range.imp fun h => by omega
theorem restI_not {gg : List Int} {L : Nat} {n : Int} (h : n ∈ restI gg L) : n ∉ gg := of_decide_eq_true (List.mem_filter.mp h).2
theorem restI_len (gg : List Int) (L : Nat) : (restI gg L).length ≤ L := by
  have := List.length_filter_le (fun k => decide (k ∉ gg)) ((List.range L).map fun k => ((k : Nat) : Int))
  rw [List.length_map, List.length_range] at this
  exact this
theorem joinK {P R : Addr → Hp → Prop} {G : Prop} (main : (∀ t H, P t H → R t H) → G) (key : ∀ t H, P t H → R t H) : G := main key
def GOk (L : Nat) (Gs : List (List Int)) : Prop := (∀ x ∈ Gs, Rising x L ∧ 2 ≤ x.length) ∧ Gs.Pairwise gangLt ∧ Gs.length ≤ 2
theorem gok0 {L : Nat} {gg : List Int} {Gs : List (List Int)} (h : Gs = [] ∨ (Gs = [gg] ∧ 2 ≤ gg.length)) (hg : Rising gg L) : GOk L Gs := by
  rcases h with rfl | ⟨rfl, h2⟩
  · exact ⟨fun x hx => (List.not_mem_nil hx).elim, List.Pairwise.nil, by decide⟩
  · refine ⟨fun x hx => ?_, List.pairwise_singleton _ _, by rw [List.length_singleton]; decide⟩
    rw [List.mem_singleton.mp hx]
    exact ⟨hg, h2⟩
theorem gok1 {L : Nat} {gg rr : List Int} {Gs : List (List Int)} (h : Gs = [] ∨ (Gs = [gg] ∧ 2 ≤ gg.length)) (hg : Rising gg L) (hr : Rising rr L) (r2 : 2 ≤ rr.length) (hd : ∀ x ∈ rr, x ∉ gg) : GOk L ((Gs ++ [rr]).mergeSort (PySem.W.dataLe false dInts)) := by
  rcases h with rfl | ⟨rfl, h2⟩
  · rw [List.nil_append, List.mergeSort_singleton]
    exact gok0 (gg := rr) (.inr ⟨rfl, r2⟩) hr
  · have hne : gg ≠ rr := fun e => by
      cases hc : rr with
      | nil => rw [hc] at r2; exact absurd r2 (by decide)
      | cons x l =>
        have hx : x ∈ rr := by rw [hc]; exact List.mem_cons_self
        have := hd x hx
        rw [e] at this
        exact this hx
    obtain ⟨x, y, e, hxy, lt⟩ := sort2 hne
    show GOk L ([gg, rr].mergeSort (PySem.W.dataLe false dInts))
    rw [e]
    refine ⟨fun v hv => ?_, ?_, Nat.le_refl 2⟩
    · have hv : v = x ∨ v = y := by simpa using hv
      rcases hxy with ⟨rfl, rfl⟩ | ⟨rfl, rfl⟩ <;> rcases hv with rfl | rfl
      · exact ⟨hg, h2⟩
      · exact ⟨hr, r2⟩
      · exact ⟨hr, r2⟩
      · exact ⟨hg, h2⟩
    · refine List.pairwise_cons.mpr ⟨fun v hv => ?_, List.pairwise_singleton _ _⟩
      rw [List.mem_singleton.mp hv]
      refine ⟨lt, fun u hu hu2 => ?_⟩
      rcases hxy with ⟨rfl, rfl⟩ | ⟨rfl, rfl⟩
      · exact hd u hu hu2
      · exact hd u hu2 hu
theorem catA_of {K : PySem.W.Frag} {H : Hp} {p a : Addr} {xs ys : List V} {Q : VK} (h1 : SqT K H p xs) (h2 : SqT K H a ys) (hy : ys ≠ []) (hl : xs.length + ys.length ≤ 1000) (q : ∀ b H', Same H H' → SqT K H' b (xs ++ ys) → Q (.ref b) H') : rCatA K (.ref p) (.ref a) H Q := by
  refine ⟨p, a, xs, ys, rfl, rfl, h1, h2, Nat.le_of_lt (small hl), fun e => ?_, fun _ e => absurd e hy, fun _ _ b nb => q b _ (same_new nb) (.of upd_same)⟩
  refine q a H (fun _ _ z => z) ?_
  rw [e]
  exact h2
theorem st_eq {t : TS} {D : Ends} {σ σ' : L2.St} {H : Hp} (e : σ = σ') (h : t D σ' H) : t D σ H := e ▸ h
theorem joinI {P R : Int → Hp → Prop} {G : Prop} (main : (∀ t H, P t H → R t H) → G) (key : ∀ t H, P t H → R t H) : G := main key
theorem shaped_scs (cs : List (List Ent)) : SeqAt.shaped (.tuple (cs.map scD)) = true := by
  have le : ∀ e : Ent, PyData.canLay0 e.d = true := fun e => lay_tup fun d hd => by
    rcases List.mem_cons.mp hd with h | hd
    · rw [h]
      exact lay_ws (fun u hu => by
        rcases List.mem_cons.mp hu with h | hu
        · rw [h]
          exact sound_kind _
        · rw [List.mem_singleton.mp hu]
          trivial)
    · rw [List.mem_singleton.mp hd]
      exact lay_ws (sound_deed _)
  have de : ∀ e : Ent, PyData.depth e.d ≤ 2 := fun e => dep_tup (k := 1) fun d hd => by
    rcases List.mem_cons.mp hd with h | hd
    · rw [h]
      exact dep_ws
    · rw [List.mem_singleton.mp hd]
      exact dep_ws
  refine shaped_by (k := 4) (lay_tup fun d hd => ?_) (dep_tup (k := 3) fun d hd => ?_) (by decide)
  · obtain ⟨sc, _, rfl⟩ := List.mem_map.mp hd
    exact lay_tup fun d hd => by
      obtain ⟨e, _, rfl⟩ := List.mem_map.mp hd
      exact le e
  · obtain ⟨sc, _, rfl⟩ := List.mem_map.mp hd
    exact dep_tup (k := 2) fun d hd => by
      obtain ⟨e, _, rfl⟩ := List.mem_map.mp hd
      exact de e
theorem eqv_scs_nil (cs : List (List Ent)) : PyData.eqv (.tuple (cs.map scD)) (.tuple []) = decide (cs = []) := by
  unfold PyData.eqv
  cases cs <;> (unfold PyData.eqvAll; rfl)
def sizes : List Int := [6, 3, 5, 8, 8, 3]
def spLawShow (K : PySem.W.Frag) : Sp := fun vs H Q _ => ∃ (d z : Addr) (g : Addr × List Int) (n : Nat), vs = [.ref d, .ref z] ∧ Draw K H d g n ∧ SqT K H z (sizes.map V.int) ∧ n + 300 ≤ 1000000 ∧
  ∀ (s : Show) v H', Valid s → But d H H' → Draw K H' d g (n + 300) → Dp K H' v s.d → Q v H'
abbrev N_ls : List Str := ["_law_draw", "_law_sizes", "_law_strips", "_law_groups", "_law_members", "_law_lines", "_law_gang", "_law_rest", "_law_gangs", "_law_hands", "_law_safes", "_law_scenes", "_law_many", "_law_order", "_law_k"]
theorem sc_ls : FnScope N_ls ["_law_draw", "_law_sizes"] (defScope s_law_show) := ⟨rfl, rfl, rfl, by decide +kernel, rfl, by decide +kernel, by decide +kernel⟩
theorem v3 {x y : V} {a b : Int} (h : a = b) : [x, V.int a, y] = [x, V.int b, y] := by rw [h]
section
variable {P : Program} {w : World} {K : PySem.W.Frag} {mg : Str → Option Value} {base : Heap}
theorem cal_lawShow (T : Txt K mg) : C8.Cal P w K mg base 5 "_law_show" (spLawShow K) [] := by
  refine T.cal at_law_show at_law_show rfl rfl sc_ls (fun _ _ _ _ _ _ us hl => match us, hl with | [_, _], _ => rfl) (fun vs H Q E h => ?_) (fun f cdv A outer s H vs Q E hr h => ?_)
  · obtain ⟨d, z, g, n, rfl, _⟩ := h
    rfl
  · obtain ⟨d, z, g, n, rfl, hD, hz, hn, q⟩ := h
    refine ⟨_, pss_cons (ps_asg (pe_tup (pa_cons (pe_op op_add pe_int (C8.pe_c (cal_next T) hr (by decide) (by rfl) (pa_cons (pv 0) (pa_cons (pe_ix ix_tup (pv 1) pe_int (fun _ _ => rfl)) pa_nil)))) (pa_cons (C8.pe_c (cal_next T) hr (by decide) (by rfl) (pa_cons (pv 0) (pa_cons (pe_op op_add (pe_ix ix_tup (pv 1) pe_int (fun _ _ => rfl)) pe_int) pa_nil))) pa_nil)))
        (pg_tup rfl (pgs_cons (pg_name (i := 2) sc_ls.nd rfl (Or.inr rfl)) (pgs_cons (pg_name (i := 3) sc_ls.nd rfl (Or.inl rfl)) pgs_nil))))
      (pss_cons (ps_set (i := 4) sc_ls.nd rfl (Or.inl rfl) (pe_tupleOf (by rfl) T.m_tuple (pe_lc (own := [("_law_k", 14)]) (g := gName 14) (tt := tYes) (te := tCall (spSomeD K) [] C8.E0 (tCons (tVar 0) (tCons (tVar 2) (tCons (tC (.int 6)) tNil)))) rfl sc_ls.nd (pi_range1 (by rfl) T.m_range (pa_cons (pv 3) pa_nil)) (blkOk_by (N := N_ls) (sc := defScope s_law_show) (by decide +kernel))
          (fun _ _ _ _ _ => pg_name (i := 14) sc_ls.nd rfl (.inl rfl)) (fun _ _ _ _ _ => pts_nil) (fun _ _ _ _ _ => C8.pe_c (cal_someD T) hr (by decide) (by rfl) (pa_cons (pv 0) (pa_cons (pv 2) (pa_cons pe_int pa_nil)))))))
      (pss_cons (ps_set (i := 5) sc_ls.nd rfl (Or.inr rfl) (pe_op op_add (pv 2) (pv 3)))
      (pss_cons (ps_set (i := 6) sc_ls.nd rfl (Or.inr rfl) (C8.pe_c (cal_someD T) hr (by decide) (by rfl) (pa_cons (pv 0) (pa_cons (pv 5) (pa_cons pe_int pa_nil)))))
      (pss_cons (ps_set (i := 7) sc_ls.nd rfl (Or.inl rfl) (pe_tupleOf (by rfl) T.m_tuple (pe_lc (own := [("_law_k", 14)]) (g := gName 14) (tt := tTest (tOp (rIn K true) (tVar 14) (tVar 6))) (te := tVar 14) rfl sc_ls.nd (pi_range1 (by rfl) T.m_range (pa_cons (pv 5) pa_nil)) (blkOk_by (N := N_ls) (sc := defScope s_law_show) (by decide +kernel))
          (fun _ _ _ _ _ => pg_name (i := 14) sc_ls.nd rfl (.inl rfl)) (fun _ _ _ _ _ => pts_one (pt_cmpR op_notIn_seq (pv 14) (pv 6) (by rfl))) (fun _ _ _ _ _ => pv 14))))
      (pss_cons (ps_set (i := 8) sc_ls.nd rfl (Or.inl rfl) (pe_ifExp (PW.pt (pw_and (pt_cmpR op_gt (pe_callB call_len_seq (by rfl) T.m_len bt_len (pa_cons (pv 6) pa_nil)) pe_int (nomark _)) (pw_and1 (pt_cmpR op_eq (C8.pe_c (cal_next T) hr (by decide) (by rfl) (pa_cons (pv 0) (pa_cons pe_int pa_nil))) pe_int (nomark _))))) (pe_tup (pa_cons (pv 6) pa_nil)) (pe_tup pa_nil)))
      (pss_cons (ps_if (PW.pt (pw_and (pt_cmpR op_gt (pe_callB call_len_seq (by rfl) T.m_len bt_len (pa_cons (pv 7) pa_nil)) pe_int (nomark _)) (pw_and1 (pt_cmpR op_eq (C8.pe_c (cal_next T) hr (by decide) (by rfl) (pa_cons (pv 0) (pa_cons pe_int pa_nil))) pe_int (nomark _)))))
        (pss_one (ps_set (i := 8) sc_ls.nd rfl (Or.inl rfl) (pe_tupleOf (by rfl) T.m_tuple (pe_callB (cr_sortedTD hr.units) (by rfl) T.m_sorted bt_sorted (pa_cons (pe_op op_catA (pv 8) (pe_tup (pa_cons (pv 7) pa_nil))) pa_nil))))) pss_nil)
      (pss_cons (ps_par (i := 9) (j := 10) rfl sc_ls.nd rfl rfl (by decide) (by rfl) (by rfl) (pa_cons (C8.pe_c (cal_someD T) hr (by decide) (by rfl) (pa_cons (pv 0) (pa_cons (pv 5) (pa_cons pe_int pa_nil)))) (pa_cons (C8.pe_c (cal_someD T) hr (by decide) (by rfl) (pa_cons (pv 0) (pa_cons (pv 5) (pa_cons (C8.pe_c (cal_next T) hr (by decide) (by rfl) (pa_cons (pv 0) (pa_cons (pe_op op_add (pe_ix ix_tup (pv 1) pe_int (fun _ _ => rfl)) pe_int) pa_nil))) pa_nil)))) pa_nil)) (by rfl))
      (pss_cons (ps_set (i := 11) sc_ls.nd rfl (Or.inr rfl) (pe_lc (own := [("_law_k", 14)]) (g := gName 14) (tt := tYes) (te := tCall (spSceneL K) [] C8.E0 (tCons (tVar 0) (tCons (tVar 5) (tCons (tOp (rIxT K) (tVar 1) (tC (.int 3))) tNil)))) rfl sc_ls.nd
          (pi_range1 (by rfl) T.m_range (pa_cons (C8.pe_c (cal_next T) hr (by decide) (by rfl) (pa_cons (pv 0) (pa_cons (pe_op op_add (pe_ix ix_tup (pv 1) pe_int (fun _ _ => rfl)) pe_int) pa_nil))) pa_nil)) (blkOk_by (N := N_ls) (sc := defScope s_law_show) (by decide +kernel))
          (fun _ _ _ _ _ => pg_name (i := 14) sc_ls.nd rfl (.inl rfl)) (fun _ _ _ _ _ => pts_nil) (fun _ _ _ _ _ => C8.pe_c (cal_sceneL T) hr (by decide) (by rfl) (pa_cons (pv 0) (pa_cons (pv 5) (pa_cons (pe_ix ix_tup (pv 1) pe_int (fun _ _ => rfl)) pa_nil))))))
      (pss_cons (ps_set (i := 11) sc_ls.nd rfl (Or.inr rfl) (C8.pe_c (cal_tame T) hr (by decide) (by rfl) (pa_cons (pv 11) (pa_cons pe_int pa_nil))))
      (pss_cons (ps_set (i := 12) sc_ls.nd rfl (Or.inl rfl) (pe_ifExp (pt_cmpR (op_neD hr.units) (pv 11) (pe_tup pa_nil) (nomark _)) (C8.pe_c (cal_next T) hr (by decide) (by rfl) (pa_cons (pv 0) (pa_cons (pe_op op_add (pe_ix ix_tup (pv 1) pe_int (fun _ _ => rfl)) pe_int) pa_nil))) pe_int))
      (pss_cons (ps_set (i := 13) sc_ls.nd rfl (Or.inl rfl) (pe_tupleOf (by rfl) T.m_tuple (pe_lc (own := [("_law_k", 14)]) (g := gName 14) (tt := tYes) (te := tCall (spNextL K) [] C8.E0 (tCons (tVar 0) (tCons (tCB (rLenK K) (tCons (tVar 11) tNil)) tNil))) rfl sc_ls.nd (pi_range1 (by rfl) T.m_range (pa_cons (pv 12) pa_nil)) (blkOk_by (N := N_ls) (sc := defScope s_law_show) (by decide +kernel))
          (fun _ _ _ _ _ => pg_name (i := 14) sc_ls.nd rfl (.inl rfl)) (fun _ _ _ _ _ => pts_nil) (fun _ _ _ _ _ => C8.pe_c (cal_next T) hr (by decide) (by rfl) (pa_cons (pv 0) (pa_cons (pe_callB (r := rLenK K) call_lenK (by rfl) T.m_len bt_len (pa_cons (pv 11) pa_nil)) pa_nil))))))
      (pss_one (ps_ret (pe_tup (pa_cons (pv 2) (pa_cons (pv 4) (pa_cons (pv 8) (pa_cons (pv 9) (pa_cons (pv 10) (pa_cons (pv 11) (pa_cons (pv 13) pa_nil))))))))))))))))))))), ?_⟩
    -- strips, groups
    refine ⟨_, rfl, _, rfl, z, _, _, _, rfl, rfl, hz, atI_nat (j := 0) rfl, d, 6, g, n, rfl, hD, ⟨by decide, by decide⟩, by omega, fun r1 H1 r10 r16 b1 D1 => ?_⟩
    have hz1 := (hD.fix b1).seqT hz
    refine ⟨_, _, rfl, rfl, _, rfl, _, rfl, z, _, _, _, rfl, rfl, hz1, atI_nat (j := 1) rfl, _, _, rfl, rfl, d, 3 + 1, g, n + 1, rfl, D1, ⟨by decide, by decide⟩, by omega, fun r2 H2 r20 r24 b2 D2 => ?_⟩
    obtain ⟨q1, rfl⟩ := Int.eq_ofNat_of_zero_le r10
    obtain ⟨gn, rfl⟩ := Int.eq_ofNat_of_zero_le r20
    refine ⟨size2, fun p np => ⟨p, _, rfl, .of upd_same, rfl, _, _, rfl, _, _, rfl, rfl, ?_⟩⟩
    have s3 := same_new (o := .tup [V.int (1 + (q1 : Int)), V.int (gn : Int)]) np
    have b3 := (b1.trans b2).trans (same_but s3)
    have D3 := D2.same s3
    have hz3 := (hD.fix b3).seqT hz
    generalize upd H2 p (.tup [V.int (1 + (q1 : Int)), V.int (gn : Int)]) = H3 at b3 D3 hz3 ⊢
    have hst : (1 + (q1 : Int)) = ((1 + q1 : Nat) : Int) := by omega
    -- members
    refine ⟨_, rfl, gn, rfl, by omega, by omega, fun D nD => ?_⟩
    have nDd := D3.ne nD
    refine lc_it (G := fun _ => True) (n := gn) (walk_rng gn) (fun i H' => But d H3 H' ∧ Draw K H' d g (n + 2 + 6 * i) ∧ ∃ acc, ∃ ms : List (List Int), H' D = some (.lst acc) ∧ DpAll K H' acc (ms.map dInts) ∧ ms.length = i ∧ ∀ m ∈ ms, Rising m ((1 + q1 : Nat) : Int)) ?_ (fun _ _ _ _ => trivial) ?_ ?_
    · have s4 := same_new (o := .lst []) nD
      exact ⟨same_but s4, (D3.same s4).mono (by omega), [], [], upd_same, .nil, rfl, fun m hm => (List.not_mem_nil hm).elim⟩
    · rintro i x H4 H5 hi ⟨b4, D4, acc, ms, eD, da, hl, hms⟩ ⟨rfl, rfl⟩
      have lacc := dpAll_len da
      rw [List.length_map] at lacc
      refine ⟨rfl, ⟨_, rfl, _, rfl, d, g, 1 + q1, 6, _, v3 hst, D4, by omega, by omega, fun ns t H6 hns _ b6 D6 ht => ⟨acc, b6 _ _ nDd eD, small (by omega), ?_⟩⟩⟩
      have e6 := b6 _ _ nDd eD
      have bb : But d H3 (upd H6 D (.lst (acc ++ [.ref t]))) := fun b o hb e => by
        rw [upd_ne (ne_of_none e nD)]
        exact b6 b o hb (b4 b o hb e)
      refine ⟨bb, (D3.put nD D6 bb).mono (by omega), acc ++ [.ref t], ms ++ [ns], upd_same, ?_, by rw [List.length_append, List.length_singleton, hl], fun m hm => ?_⟩
      · rw [List.map_append]
        exact dpAll_app (DpAll.fixT (fixT_lst e6) _ _ (tupOnly_lines _) (DpAll.fix (D4.fix b6) _ _ da)) (.cons (ints_dp ((fixT_lst e6).seqT ht)) .nil)
      · rcases List.mem_append.mp hm with hm | hm
        · exact hms m hm
        · rw [List.mem_singleton.mp hm]
          exact hns
    rintro H4 ⟨b4, D4, acc, ms, eD, da, hml, hms⟩
    refine .inl ⟨D, acc, rfl, .of eD, fun tm ntm => ?_⟩
    have s5 := same_new (o := .tup acc) ntm
    have dm5 : Dp K (upd H4 tm (.tup acc)) (.ref tm) (.tuple (ms.map dInts)) := .tup (.of upd_same) (DpAll.fix (same_fix s5) _ _ da)
    have b5 := (b3.trans b4).trans (same_but s5)
    have D5 := (D4.same s5).mono (show n + 2 + 6 * gn ≤ n + 20 by omega)
    have hz5 := (hD.fix b5).seqT hz
    generalize upd H4 tm (.tup acc) = H5 at dm5 b5 D5 hz5 ⊢
    clear s5 da eD b4 D4 nD nDd b3 D3 hz3 hz1 b1 D1 b2 D2
    -- lines
    have hL : (1 + (q1 : Int)) + (gn : Int) = ((1 + q1 + gn : Nat) : Int) := by omega
    generalize hLL : 1 + q1 + gn = L at hL
    have hL9 : L ≤ 9 := by omega
    refine ⟨_, rfl, _, rfl, _, _, rfl, rfl, ?_⟩
    -- the gang
    refine ⟨_, rfl, _, rfl, d, g, L, 9, _, v3 hL, D5, by omega, by omega, fun gg tg H6 hgg _ b6 D6 htg => ?_⟩
    have dm6 := Dp.fix (D5.fix b6) _ _ dm5
    have b06 := b5.trans b6
    have D6 := D6.mono (show n + 20 + L ≤ n + 29 by omega)
    -- the rest
    refine ⟨_, rfl, (L : Int), by show [V.int (1 + (q1 : Int) + (gn : Int))] = _; rw [hL], by omega, by omega, fun D nD => ?_⟩
    refine lc_it (G := fun _ => True) (n := L) (walk_rng L) (fun i H' => Same H6 H' ∧ H' D = some (.lst ((restI gg i).map V.int))) ⟨same_new nD, upd_same⟩ (fun _ _ _ _ => trivial) ?_ ?_
    · rintro i x H7 H8 hi ⟨s7, eD⟩ ⟨rfl, rfl⟩
      refine ⟨rfl, _, rfl, _, rfl, tg, gg.map V.int, rfl, .inr ((same_fix s7).seqT htg), rfl, flat_ints _, _, rfl, ?_⟩
      rw [restI_succ]
      by_cases hin : (i : Int) ∈ gg
      · refine ifF (show (!inV (V.int (i : Nat)) (gg.map V.int)) = false by rw [notIn_seq_ints, decide_eq_false fun z => z hin]) ?_
        rw [if_pos hin, List.append_nil]
        exact ⟨s7, eD⟩
      · refine ifT (show (!inV (V.int (i : Nat)) (gg.map V.int)) = true by rw [notIn_seq_ints, decide_eq_true hin]) ?_
        refine ⟨_, rfl, _, eD, small (by rw [List.length_map]; have := restI_len gg i; omega), same_at nD s7, ?_⟩
        rw [if_neg hin, upd_same, List.map_append]
        rfl
    rintro H7 ⟨s7, eD⟩
    refine .inl ⟨D, _, rfl, .of eD, fun tr ntr => ?_⟩
    have s8 := s7.trans (same_new (o := .tup ((restI gg L).map V.int)) ntr)
    have htr : SqT K (upd H7 tr (.tup ((restI gg L).map V.int))) tr ((restI gg L).map V.int) := .of upd_same
    have htg8 := (same_fix s8).seqT htg
    have dm8 := Dp.fix (same_fix s8) _ _ dm6
    have D8 := D6.same s8
    have b08 := b06.trans (same_but s8)
    generalize upd H7 tr (.tup ((restI gg L).map V.int)) = H8 at htr htg8 dm8 D8 b08 ⊢
    have hrr := restI_rising gg L
    have hrn : ∀ x ∈ restI gg L, x ∉ gg := fun x hx => restI_not hx
    have hrl := restI_len gg L
    generalize restI gg L = rr at htr hrr hrn hrl
    clear s7 eD s8 dm6 D6 b06 htg b6 nD D5 dm5 hz5 b5
    -- gangs: at most the one
    have gl : (gg.map V.int).length = gg.length := List.length_map _
    have rl : (rr.map V.int).length = rr.length := List.length_map _
    apply joinK (P := fun (t9 : Addr) (H9 : Hp) => But d H8 H9 ∧ Draw K H9 d g (n + 30) ∧ ∃ Gs : List (List Int), (Gs = [] ∨ (Gs = [gg] ∧ 2 ≤ gg.length)) ∧ Dp K H9 (.ref t9) (.tuple (Gs.map dInts)))
    case main =>
      intro key
      refine ⟨_, rfl, tg, _, rfl, .inr htg8, _, _, rfl, rfl, _, rfl, andC (fun h1 => ?_) (fun h1 => ?_)⟩
      refine ⟨_, rfl, d, 2, g, _, rfl, D8, ⟨by decide, by decide⟩, by omega, fun r3 H9 _ _ b9 D9 => ⟨rfl, _, rfl, andC (fun h2 => ?_) (fun h2 => ?_)⟩⟩
      · refine ⟨_, rfl, size1, fun t9 nt9 => ?_⟩
        have s9 := same_new (o := .tup [V.ref tg]) nt9
        have f9 := (D8.fix b9).trans (same_fix s9)
        have fact : But d H8 (upd H9 t9 (.tup [V.ref tg])) ∧ Draw K (upd H9 t9 (.tup [V.ref tg])) d g (n + 30) ∧ ∃ Gs : List (List Int), (Gs = [] ∨ (Gs = [gg] ∧ 2 ≤ gg.length)) ∧ Dp K (upd H9 t9 (.tup [V.ref tg])) (.ref t9) (.tuple (Gs.map dInts)) :=
          ⟨b9.trans (same_but s9), (D9.same s9).mono (by omega), [gg], .inr ⟨rfl, by have := of_decide_eq_true h1; omega⟩, .tup (.of upd_same) (.cons (ints_dp (f9.seqT htg8)) .nil)⟩
        clear s9 f9
        generalize upd H9 t9 (.tup [V.ref tg]) = HA at fact ⊢
        exact key t9 HA fact
      · refine ⟨size0, fun t9 nt9 => ?_⟩
        have s9 := same_new (o := .tup []) nt9
        have fact : But d H8 (upd H9 t9 (.tup [])) ∧ Draw K (upd H9 t9 (.tup [])) d g (n + 30) ∧ ∃ Gs : List (List Int), (Gs = [] ∨ (Gs = [gg] ∧ 2 ≤ gg.length)) ∧ Dp K (upd H9 t9 (.tup [])) (.ref t9) (.tuple (Gs.map dInts)) :=
          ⟨b9.trans (same_but s9), (D9.same s9).mono (by omega), [], .inl rfl, .tup (.of upd_same) .nil⟩
        clear s9
        generalize upd H9 t9 (.tup []) = HA at fact ⊢
        exact key t9 HA fact
      · refine iteF ⟨size0, fun t9 nt9 => ?_⟩
        have s9 := same_new (o := .tup []) nt9
        have fact : But d H8 (upd H8 t9 (.tup [])) ∧ Draw K (upd H8 t9 (.tup [])) d g (n + 30) ∧ ∃ Gs : List (List Int), (Gs = [] ∨ (Gs = [gg] ∧ 2 ≤ gg.length)) ∧ Dp K (upd H8 t9 (.tup [])) (.ref t9) (.tuple (Gs.map dInts)) :=
          ⟨same_but s9, (D8.same s9).mono (by omega), [], .inl rfl, .tup (.of upd_same) .nil⟩
        clear s9
        generalize upd H8 t9 (.tup []) = HA at fact ⊢
        exact key t9 HA fact
    rintro t9 HA ⟨bA, DA, Gs, hGs, dG⟩
    have fA := D8.fix bA
    have htrA := fA.seqT htr
    have dmA := Dp.fix fA _ _ dm8
    have b0A := b08.trans bA
    clear bA D8 dm8 b08 htr fA htg8
    apply joinK (P := fun (t9 : Addr) (H9 : Hp) => But d HA H9 ∧ Draw K H9 d g (n + 31) ∧ ∃ Gs : List (List Int), GOk L Gs ∧ Dp K H9 (.ref t9) (.tuple (Gs.map dInts)))
    case main =>
      intro key
      refine ⟨_, rfl, tr, _, rfl, .inr htrA, _, _, rfl, rfl, _, rfl, andC (fun h1 => ?_) (fun h1 => ?_)⟩
      refine ⟨_, rfl, d, 3, g, _, rfl, DA, ⟨by decide, by decide⟩, by omega, fun r4 HB _ _ bB DB => ⟨rfl, _, rfl, andC (fun h2 => ?_) (fun h2 => ?_)⟩⟩
      · have fB := DA.fix bB
        obtain ⟨xs9, hs9, ds9, ls9⟩ := tup_ints (Dp.fix fB _ _ dG)
        refine ⟨_, rfl, _, rfl, size1, fun p5 np5 => ?_⟩
        have s5 := same_new (o := .tup [V.ref tr]) np5
        have lG : Gs.length ≤ 1 := by
          rcases hGs with e | ⟨e, _⟩ <;> (rw [e]; simp)
        refine catA_of ((same_fix s5).seqT hs9) (.of upd_same) (by simp) (by rw [ls9, List.length_singleton]; omega) fun b HC s6 hb => ?_
        have s56 := s5.trans s6
        have r2 : 2 ≤ rr.length := by
          have := of_decide_eq_true h1
          omega
        refine ⟨b, _, Gs ++ [rr], rfl, hb, ?_, ?_, by rw [List.length_append, List.length_singleton]; omega, fun p6 ys6 np6 d6 => ?_⟩
        · rw [List.map_append]
          exact dpAll_app (DpAll.fix (same_fix s56) _ _ ds9) (.cons (ints_dp ((same_fix s56).seqT (fB.seqT htrA))) .nil)
        · intro l hl hn
          subst hn
          rcases List.mem_append.mp hl with hl | hl
          · rcases hGs with e | ⟨e, e2⟩
            · rw [e] at hl; cases hl
            · rw [e] at hl
              rw [← List.mem_singleton.mp hl] at e2
              exact absurd e2 (by decide)
          · rw [← List.mem_singleton.mp hl] at r2
            exact absurd r2 (by decide)
        · refine .inl ⟨p6, ys6, rfl, .of upd_same, fun t10 nt10 => ?_⟩
          have s7 := same_new (o := .lst ys6) np6
          have s8 := same_new (o := .tup ys6) nt10
          have s58 := (s56.trans s7).trans s8
          have fact : But d HA (upd (upd HC p6 (.lst ys6)) t10 (.tup ys6)) ∧ Draw K (upd (upd HC p6 (.lst ys6)) t10 (.tup ys6)) d g (n + 31) ∧ ∃ Gs : List (List Int), GOk L Gs ∧ Dp K (upd (upd HC p6 (.lst ys6)) t10 (.tup ys6)) (.ref t10) (.tuple (Gs.map dInts)) :=
            ⟨bB.trans (same_but s58), (DB.same s58).mono (by omega), _, gok1 hGs hgg hrr r2 hrn, .tup (.of upd_same) (DpAll.fix (same_fix (s7.trans s8)) _ _ d6)⟩
          clear s7 s8 s58
          generalize upd (upd HC p6 (.lst ys6)) t10 (.tup ys6) = HX at fact ⊢
          exact key t10 HX fact
      · have fact : But d HA HB ∧ Draw K HB d g (n + 31) ∧ ∃ Gs : List (List Int), GOk L Gs ∧ Dp K HB (.ref t9) (.tuple (Gs.map dInts)) :=
          ⟨bB, DB.mono (by omega), Gs, gok0 hGs hgg, Dp.fix (DA.fix bB) _ _ dG⟩
        exact key t9 HB fact
      · refine iteF ?_
        have fact : But d HA HA ∧ Draw K HA d g (n + 31) ∧ ∃ Gs : List (List Int), GOk L Gs ∧ Dp K HA (.ref t9) (.tuple (Gs.map dInts)) :=
          ⟨But.refl _ _, DA.mono (by omega), Gs, gok0 hGs hgg, dG⟩
        exact key t9 HA fact
    rintro t10 HC ⟨bC, DC, Gs2, hG2, dG2⟩
    have dmC := Dp.fix (DA.fix bC) _ _ dmA
    have b0C := b0A.trans bC
    clear bC DA dmA b0A dG hGs Gs htrA hrr hrn hrl rl gl hgg
    -- hands, safes
    show tSeq _ _ _ _ _
    refine st_eq (σ' := [some (.ref d), some (.ref z), some (.int (1 + (q1 : Int))), some (.int (gn : Int)), some (.ref tm), some (.int (1 + (q1 : Int) + (gn : Int))), some (.ref tg), some (.ref tr), some (.ref t10), none, none, none, none, none, none]) (by kernel_rfl) ?_
    refine ⟨_, rfl, _, rfl, d, g, L, 9, _, v3 hL, DC, by omega, by omega, fun hs th HD hhs hhl bD DD hth => ?_⟩
    have b0D := b0C.trans bD
    have hzD := (hD.fix b0D).seqT hz
    refine ⟨_, rfl, _, rfl, _, rfl, _, rfl, z, _, _, _, rfl, rfl, hzD, atI_nat (j := 5) rfl, _, _, rfl, rfl, d, 3 + 1, g, _, rfl, DD, ⟨by decide, by decide⟩, by omega, fun r5 HE r50 r54 bE DE => ?_⟩
    obtain ⟨q5, rfl⟩ := Int.eq_ofNat_of_zero_le r50
    refine ⟨d, g, L, q5, _, v3 hL, DE, by omega, by omega, fun ss ts HF hss hsl bF DF hts => ⟨_, _, rfl, ?_⟩⟩
    have fDF := (DD.fix (bE.trans bF))
    have hthF := fDF.seqT hth
    have dmF := Dp.fix ((DC.fix bD).trans fDF) _ _ dmC
    have dGF := Dp.fix ((DC.fix bD).trans fDF) _ _ dG2
    have b0F := (b0D.trans bE).trans bF
    have hzF := (hD.fix b0F).seqT hz
    have DF := DF.mono (show _ ≤ n + 31 + 9 + 1 + 9 by omega)
    clear dmC dG2 hth DC DD DE bD bE bF b0C b0D hzD fDF
    -- scenes
    refine ⟨_, rfl, _, rfl, z, _, _, _, rfl, rfl, hzF, atI_nat (j := 2) rfl, _, _, rfl, rfl, d, 5 + 1, g, _, rfl, DF, ⟨by decide, by decide⟩, by omega, fun r6 HG r60 r66 bG DG => ?_⟩
    obtain ⟨cn, rfl⟩ := Int.eq_ofNat_of_zero_le r60
    have b0G := b0F.trans bG
    have fG := DF.fix bG
    have hthG := fG.seqT hthF
    have htsG := fG.seqT hts
    have dmG := Dp.fix fG _ _ dmF
    have dGG := Dp.fix fG _ _ dGF
    have hzG := fG.seqT hzF
    clear hthF hts dmF dGF hzF b0F bG DF fG
    refine ⟨cn, rfl, by omega, by omega, fun D nD => ?_⟩
    have nDd := DG.ne nD
    refine lc_it (G := fun _ => True) (n := cn) (walk_rng cn) (fun i H' => But d HG H' ∧ Draw K H' d g (n + 51 + 40 * i) ∧ ∃ acc, ∃ cs : List (List Ent), H' D = some (.lst acc) ∧ DpAll K H' acc (cs.map scD) ∧ cs.length = i ∧ ∀ sc ∈ cs, ScOk L 10 sc) ?_ (fun _ _ _ _ => trivial) ?_ ?_
    · have s4 := same_new (o := .lst []) nD
      exact ⟨same_but s4, (DG.same s4).mono (by omega), [], [], upd_same, .nil, rfl, fun m hm => (List.not_mem_nil hm).elim⟩
    · rintro i x H4 H5 hi ⟨b4, D4, acc, cs, eD, da, hl, hcs⟩ ⟨rfl, rfl⟩
      have lacc := dpAll_len da
      rw [List.length_map] at lacc
      refine ⟨rfl, ⟨_, rfl, _, rfl, _, rfl, z, _, _, _, rfl, rfl, (DG.fix b4).seqT hzG, atI_nat (j := 3) rfl, d, L, 8, g, _, v3 hL, D4, hL9, by omega, by omega, fun es t H6 hok hpw hlen b6 D6 dt => ⟨acc, b6 _ _ nDd eD, small (by omega), ?_⟩⟩⟩
      have e6 := b6 _ _ nDd eD
      have bb : But d HG (upd H6 D (.lst (acc ++ [.ref t]))) := fun b o hb e => by
        rw [upd_ne (ne_of_none e nD)]
        exact b6 b o hb (b4 b o hb e)
      refine ⟨bb, (DG.put nD D6 bb).mono (by omega), acc ++ [.ref t], cs ++ [es], upd_same, ?_, by rw [List.length_append, List.length_singleton, hl], fun m hm => ?_⟩
      · rw [List.map_append]
        exact dpAll_app (DpAll.fixT (fixT_lst e6) _ _ (tupOnly_scs _) (DpAll.fix (D4.fix b6) _ _ da)) (.cons (Dp.fixT (fixT_lst e6) _ _ (tupOnly_scD _) dt) .nil)
      · rcases List.mem_append.mp hm with hm | hm
        · exact hcs m hm
        · rw [List.mem_singleton.mp hm]
          exact ⟨hok, hpw, by omega⟩
    rintro HH ⟨bH, DH, acc, cs, eD, da, hcl, hcs⟩
    have fH := DG.fix bH
    have DH := DH.mono (show n + 51 + 40 * cn ≤ n + 251 by omega)
    have b0H := b0G.trans bH
    -- tame
    show tSeq _ _ _ _ _
    refine st_eq (σ' := [some (.ref d), some (.ref z), some (.int (1 + (q1 : Int))), some (.int (gn : Int)), some (.ref tm), some (.int (1 + (q1 : Int) + (gn : Int))), some (.ref tg), some (.ref tr), some (.ref t10), some (.ref th), some (.ref ts), some (.ref D), none, none, none]) (by kernel_rfl) ?_
    refine ⟨_, rfl, D, acc, cs, L, 6, rfl, .of eD, da, by omega, hcs, fun cs' tcs HI sI hcl' hcs' hcnt dcs => ?_⟩
    have fI := fH.trans (same_fix sI)
    have hthI := fI.seqT hthG
    have htsI := fI.seqT htsG
    have dmI := Dp.fix fI _ _ dmG
    have dGI := Dp.fix fI _ _ dGG
    have hzI := fI.seqT hzG
    have DI := DH.same sI
    have b0I := b0H.trans (same_but sI)
    clear hthG htsG dmG dGG hzG DH b0H fI fH da eD bH DG nD nDd sI b0G acc
    -- how many in the list
    show tSeq _ _ _ _ _
    refine st_eq (σ' := [some (.ref d), some (.ref z), some (.int (1 + (q1 : Int))), some (.int (gn : Int)), some (.ref tm), some (.int (1 + (q1 : Int) + (gn : Int))), some (.ref tg), some (.ref tr), some (.ref t10), some (.ref th), some (.ref ts), some (.ref tcs), none, none, none]) (by kernel_rfl) ?_
    apply joinI (P := fun (m : Int) (H9 : Hp) => But d HI H9 ∧ Draw K H9 d g (n + 252) ∧ (0 ≤ m ∧ m < 9) ∧ (cs' = [] → m = 0))
    case main =>
      intro key
      refine ⟨_, rfl, size0, fun p0 np0 => ?_⟩
      have s0 := same_new (o := .tup []) np0
      refine ⟨.tuple (cs'.map scD), .tuple [], Dp.fix (same_fix s0) _ _ dcs, .tup (.of upd_same) .nil, shaped_scs _, shaped_nil, _, rfl, andC (fun h1 => ?_) (fun h1 => ?_)⟩
      · rw [eqv_scs_nil] at h1
        have hne : cs' ≠ [] := fun e => by
          rw [decide_eq_true e] at h1
          cases h1
        refine ⟨_, rfl, _, rfl, z, _, _, _, rfl, rfl, (same_fix s0).seqT hzI, atI_nat (j := 4) rfl, _, _, rfl, rfl, d, 8 + 1, g, _, rfl, DI.same s0, ⟨by decide, by decide⟩, by omega, fun r7 HJ r70 r79 bJ DJ => ?_⟩
        have fact : But d HI HJ ∧ Draw K HJ d g (n + 252) ∧ (0 ≤ r7 ∧ r7 < 9) ∧ (cs' = [] → r7 = 0) := ⟨(same_but s0).trans bJ, DJ.mono (by omega), ⟨r70, r79⟩, fun e => absurd e hne⟩
        exact key r7 HJ fact
      · have fact : But d HI (upd HI p0 (.tup [])) ∧ Draw K (upd HI p0 (.tup [])) d g (n + 252) ∧ ((0 : Int) ≤ 0 ∧ (0 : Int) < 9) ∧ (cs' = [] → (0 : Int) = 0) := ⟨same_but s0, (DI.same s0).mono (by omega), by decide, fun _ => rfl⟩
        clear s0
        generalize upd HI p0 (.tup []) = HJ at fact ⊢
        exact key 0 HJ fact
    rintro r7 HJ ⟨bJ, DJ, ⟨r70, r79⟩, hem⟩
    obtain ⟨mn, rfl⟩ := Int.eq_ofNat_of_zero_le r70
    have fJ := DI.fix bJ
    obtain ⟨_, xcs, ecs, hxcs, dxcs⟩ := dp_tup (Dp.fix fJ _ _ dcs)
    cases ecs
    have lxcs : xcs.length = cs'.length := by rw [dpAll_len dxcs, List.length_map]
    have b0J := b0I.trans bJ
    refine ⟨_, rfl, mn, rfl, by omega, by omega, fun D nD => ?_⟩
    have nDd := DJ.ne nD
    refine lc_it (G := fun _ => True) (n := mn) (walk_rng mn) (fun i H' => But d HJ H' ∧ Draw K H' d g (n + 252 + i) ∧ ∃ os : List Int, H' D = some (.lst (os.map V.int)) ∧ os.length = i ∧ ∀ o ∈ os, 0 ≤ o ∧ o < cs'.length) ?_ (fun _ _ _ _ => trivial) ?_ ?_
    · have s4 := same_new (o := .lst []) nD
      exact ⟨same_but s4, (DJ.same s4).mono (by omega), [], upd_same, rfl, fun m hm => (List.not_mem_nil hm).elim⟩
    · rintro i x H4 H5 hi ⟨b4, D4, os, eD, hl, hos⟩ ⟨rfl, rfl⟩
      have hpos : 0 < cs'.length := by
        apply Nat.pos_of_ne_zero
        intro e
        have := hem (List.length_eq_zero_iff.mp e)
        omega
      refine ⟨rfl, ⟨_, rfl, _, rfl, tcs, xcs, rfl, .inr ((DJ.fix b4).seqT hxcs), d, _, g, _, rfl, D4, ⟨by omega, by omega⟩, by omega, fun r H6 r0 r1 b6 D6 => ⟨_, b6 _ _ nDd eD, small (by rw [List.length_map]; omega), ?_⟩⟩⟩
      have bb : But d HJ (upd H6 D (.lst (os.map V.int ++ [.int r]))) := fun b o hb e => by
        rw [upd_ne (ne_of_none e nD)]
        exact b6 b o hb (b4 b o hb e)
      refine ⟨bb, (DJ.put nD D6 bb).mono (by omega), os ++ [r], ?_, by rw [List.length_append, List.length_singleton, hl], fun m hm => ?_⟩
      · rw [upd_same, List.map_append]
        rfl
      · rcases List.mem_append.mp hm with hm | hm
        · exact hos m hm
        · rw [List.mem_singleton.mp hm]
          exact ⟨r0, by omega⟩
    rintro HK ⟨bK, DK, os, eD, hol, hos⟩
    refine .inl ⟨D, _, rfl, .of eD, fun to nto => ?_⟩
    have s1 := same_new (o := .tup (os.map V.int)) nto
    refine ⟨V.int (1 + (q1 : Int)), by kernel_rfl, .ref tm, by kernel_rfl, .ref t10, by kernel_rfl, .ref th, by kernel_rfl, .ref ts, by kernel_rfl, .ref tcs, by kernel_rfl, .ref to, by kernel_rfl, size7, fun tt ntt => ?_⟩
    have s12 : Same HK _ := s1.trans (same_new (o := .tup [V.int (1 + (q1 : Int)), .ref tm, .ref t10, .ref th, .ref ts, .ref tcs, .ref to]) ntt)
    have fK := fJ.trans ((DJ.fix bK).trans (same_fix s12))
    have top : SqT K (upd (upd HK to (.tup (os.map V.int))) tt (.tup [V.int (1 + (q1 : Int)), .ref tm, .ref t10, .ref th, .ref ts, .ref tcs, .ref to])) tt [V.int ((1 + q1 : Nat) : Int), .ref tm, .ref t10, .ref th, .ref ts, .ref tcs, .ref to] := by
      rw [← hst]
      exact .of upd_same
    have hA : ShowAt K (upd (upd HK to (.tup (os.map V.int))) tt (.tup [V.int (1 + (q1 : Int)), .ref tm, .ref t10, .ref th, .ref ts, .ref tcs, .ref to])) ⟨((1 + q1 : Nat) : Int), ms, Gs2, hs, ss, cs', os⟩ tt tm t10 th ts tcs to :=
      ⟨top, Dp.fix fK _ _ dmI, Dp.fix fK _ _ dGI, fK.seqT hthI, fK.seqT htsI, Dp.fix fK _ _ dcs, (same_fix (same_new ntt)).seqT (.of upd_same)⟩
    refine q ⟨((1 + q1 : Nat) : Int), ms, Gs2, hs, ss, cs', os⟩ (.ref tt) _ ?_ ((b0J.trans bK).trans (same_but s12)) ((DK.same s12).mono (by omega)) hA.dp
    have hlines : Show.lines ⟨((1 + q1 : Nat) : Int), ms, Gs2, hs, ss, cs', os⟩ = (L : Int) := by
      show ((1 + q1 : Nat) : Int) + (ms.length : Int) = L
      omega
    have hflat := hcnt
    constructor
    · exact ⟨by show 1 ≤ ((1 + q1 : Nat) : Int); omega, by show ((1 + q1 : Nat) : Int) ≤ 6; omega⟩
    · show ms.length ≤ 3
      omega
    · exact hms
    · have := hG2.2.2
      show Gs2.length ≤ 4
      omega
    · intro x hx
      rw [hlines]
      exact hG2.1 x hx
    · exact hG2.2.1
    · rw [hlines]
      exact hhs
    · exact hhl
    · rw [hlines]
      exact hss
    · show ss.length ≤ 3
      omega
    · show cs'.length ≤ 6
      omega
    · intro sc hsc
      rw [hlines]
      obtain ⟨a1, a2, a3⟩ := hcs' sc hsc
      exact ⟨by omega, a1, a2⟩
    · show os.length ≤ 8
      omega
    · exact hos
    · show cnt cs'.flatten ≤ 12
      omega
end
end K33
/-! _law_show_text. -/
namespace K33
open PySem PySem.Spec PyProof.Rows L2
def rStrW : List V → Hp → VK → Prop := fun xs H Q => ∃ u : W, xs = [u.v] ∧ u.ok ∧ Q (.str u.t) H
theorem log_small {n : Int} (h1 : -9999999 ≤ n) (h2 : n ≤ 9999999) : n.natAbs.log2 < 1920 := by
  by_cases h0 : n.natAbs = 0
  · rw [h0]
    decide
  · have e : (2 : Nat) ^ 24 = 16777216 := by decide
    have l := (Nat.log2_lt (n := n.natAbs) (k := 24) h0).mpr (by omega)
    omega
theorem call_strW {X : Cx} : CallR X (.type "str") rStrW := by
  intro pins s σ H xs us Q I r h
  obtain ⟨u, rfl, hu, q⟩ := h
  cases u with
  | s x => exact SkE.call_str_str pins s σ H _ us Q I r ⟨x, rfl, q⟩
  | i n => exact call_str_int pins s σ H _ us Q I r ⟨n, rfl, log_small hu.1 hu.2, by rw [intS_toString]; exact q⟩
def RowL (H : Hp) (q : Addr) (r : List W) : Prop := H q = some (.lst (r.map W.v))
def RL (H : Hp) (R : Addr) (rws : List (List W)) : Prop := ∃ ps : List Addr, H R = some (.lst (ps.map V.ref)) ∧ Paired (fun q r => q ≠ R ∧ RowL H q r) ps rws
theorem RL.same {H H' : Hp} {R : Addr} {rws : List (List W)} (h : RL H R rws) (s : Same H H') : RL H' R rws := by
  obtain ⟨ps, e, d⟩ := h
  exact ⟨ps, s _ _ e, L2.Paired.mapP d fun q r z => ⟨z.1, s _ _ z.2⟩⟩
theorem paired_app {α β : Type} {F : α → β → Prop} : ∀ {a c : List α} {b d : List β}, Paired F a b → Paired F c d → Paired F (a ++ c) (b ++ d)
  | _, _, _, _, .nil, h => h
  | _, _, _, _, .cons x y, h => .cons x (paired_app y h)
/-- rows + other rows: a new list -/
theorem RL.cat {H : Hp} {p : Addr} {ps ps2 : List Addr} {a b : List (List W)} (np : H p = none) (d1 : Paired (fun q r => RowL H q r) ps a) (d2 : Paired (fun q r => RowL H q r) ps2 b) : RL (upd H p (.lst (ps.map V.ref ++ ps2.map V.ref))) p (a ++ b) := by
  refine ⟨ps ++ ps2, by rw [upd_same, List.map_append], paired_app (L2.Paired.mapP d1 fun q r z => ?_) (L2.Paired.mapP d2 fun q r z => ?_)⟩
  · have n := ne_of_none z np
    exact ⟨n, by unfold RowL; rw [upd_ne n]; exact z⟩
  · have n := ne_of_none z np
    exact ⟨n, by unfold RowL; rw [upd_ne n]; exact z⟩
theorem RL.put {H : Hp} {R : Addr} {ps ps2 : List Addr} {a b : List (List W)} (d1 : Paired (fun q r => q ≠ R ∧ RowL H q r) ps a) (d2 : Paired (fun q r => q ≠ R ∧ RowL H q r) ps2 b) : RL (upd H R (.lst (ps.map V.ref ++ ps2.map V.ref))) R (a ++ b) := by
  refine ⟨ps ++ ps2, by rw [upd_same, List.map_append], paired_app (L2.Paired.mapP d1 fun q r z => ?_) (L2.Paired.mapP d2 fun q r z => ?_)⟩
  · exact ⟨z.1, by unfold RowL; rw [upd_ne z.1]; exact z.2⟩
  · exact ⟨z.1, by unfold RowL; rw [upd_ne z.1]; exact z.2⟩
theorem line_v (x : Str) (ns : List Int) : [V.str x] ++ ns.map V.int = (lineOf x ns).map W.v := by
  rw [map_iv]
  rfl
theorem rl_of {H1 H : Hp} {x : Str} : ∀ {ps : List Addr} {L : List (List Int)}, Paired (fun (q : Addr) (l : List V) => H1 q = none ∧ H q = some (.lst l)) ps (L.map fun ns => (lineOf x ns).map W.v) → Paired (fun q r => RowL H q r) ps (L.map (lineOf x))
  | [], [], _ => .nil
  | [], _ :: _, h => nomatch h
  | _ :: _, [], h => nomatch h
  | _ :: _, _ :: _, .cons a b => .cons a.2 (rl_of b)
theorem re_of {H1 H : Hp} {R : Addr} {o : HO} (e : H1 R = some o) : ∀ {ps : List Addr} {L : List Ent}, Paired (fun (q : Addr) (l : List V) => H1 q = none ∧ H q = some (.lst l)) ps (L.map fun e => e.w.map W.v) → Paired (fun q r => q ≠ R ∧ RowL H q r) ps (L.map Ent.w)
  | [], [], _ => .nil
  | [], _ :: _, h => nomatch h
  | _ :: _, [], h => nomatch h
  | _ :: _, _ :: _, .cons a b => .cons ⟨(ne_of_none e a.1).symm, a.2⟩ (re_of e b)
theorem len_some {x : Str} {ns : List Int} {rws : List (List W)} {k : Nat} (h : rws.length ≤ k) : (rws ++ someLine x ns).length ≤ k + 1 := by
  have := someLine_len x ns
  rw [List.length_append]
  omega
def spLST (K : PySem.W.Frag) : Sp := fun vs H Q _ => ∃ (v : V) (s : Show), vs = [v] ∧ Dp K H v s.d ∧ Valid s ∧ ∀ H', Same H H' → Q (.str (showT s)) H'
abbrev N_lt : List Str := ["_law_pult", "_law_strips", "_law_members", "_law_gangs", "_law_hands", "_law_safes", "_law_scenes", "_law_order", "_law_rows", "_law_scene_here", "_law_own", "_law_part", "_law_deed_here", "_law_row", "_law_word"]
theorem sc_lt : FnScope N_lt ["_law_pult"] (defScope s_law_show_text) := ⟨rfl, rfl, rfl, by decide +kernel, rfl, by decide +kernel, by decide +kernel⟩
abbrev rLst (K : PySem.W.Frag) : List V → Hp → VK → Prop := fun xs H Q => ∃ p ys, xs = [.ref p] ∧ (SqL K H p ys ∨ SqT K H p ys) ∧ ∀ l, H l = none → Q (.ref l) (upd H l (.lst ys))
section
variable {P : Program} {w : World} {K : PySem.W.Frag} {mg : Str → Option Value} {base : Heap}
theorem cal_lst (T : Txt K mg) : C8.Cal P w K mg base 1 "_law_show_text" (spLST K) [] := by
  refine T.cal at_law_show_text at_law_show_text rfl rfl sc_lt (fun _ _ _ _ _ _ us hl => match us, hl with | [_], _ => rfl) (fun vs H Q E h => ?_) (fun f cdv A outer s H vs Q E hr h => ?_)
  · obtain ⟨v, S, rfl, _⟩ := h
    rfl
  · obtain ⟨v, S, rfl, hd, hV, q⟩ := h
    refine ⟨_, pss_cons (ps_asg (pv 0) (pg_tup rfl (pgs_cons (pg_name (i := 1) sc_lt.nd rfl (Or.inl rfl)) (pgs_cons (pg_name (i := 2) sc_lt.nd rfl (Or.inl rfl)) (pgs_cons (pg_name (i := 3) sc_lt.nd rfl (Or.inl rfl)) (pgs_cons (pg_name (i := 4) sc_lt.nd rfl (Or.inl rfl))
          (pgs_cons (pg_name (i := 5) sc_lt.nd rfl (Or.inl rfl)) (pgs_cons (pg_name (i := 6) sc_lt.nd rfl (Or.inl rfl)) (pgs_cons (pg_name (i := 7) sc_lt.nd rfl (Or.inl rfl)) pgs_nil)))))))))
      (pss_cons (ps_set (i := 8) sc_lt.nd rfl (Or.inl rfl) (pe_op op_cat (pe_lst (pa_cons (pe_lst (pa_cons pe_str (pa_cons (pv 1) pa_nil))) pa_nil))
          (pe_lc (own := [("_law_own", 10)]) (g := gName 10) (tt := tYes) (te := tOp rCat (tLst (tCons (tC (.str "group")) tNil)) (tCB (rLst K) (tCons (tVar 10) tNil))) rfl sc_lt.nd (pi_tup (pv 2)) (blkOk_by (by kernel_rfl))
            (fun _ _ _ _ _ => pg_name (i := 10) sc_lt.nd rfl (.inl rfl)) (fun _ _ _ _ _ => pts_nil) (fun _ _ _ _ _ => pe_op op_cat (pe_lst (pa_cons pe_str pa_nil)) (pe_callTy call_list_of (by rfl) T.m_list bt_list (pa_cons (pv 10) pa_nil))))))
      (pss_cons (ps_set (i := 8) sc_lt.nd rfl (Or.inl rfl) (pe_op op_cat (pv 8)
          (pe_lc (own := [("_law_own", 10)]) (g := gName 10) (tt := tYes) (te := tOp rCat (tLst (tCons (tC (.str "gang")) tNil)) (tCB (rLst K) (tCons (tVar 10) tNil))) rfl sc_lt.nd (pi_tup (pv 3)) (blkOk_by (by kernel_rfl))
            (fun _ _ _ _ _ => pg_name (i := 10) sc_lt.nd rfl (.inl rfl)) (fun _ _ _ _ _ => pts_nil) (fun _ _ _ _ _ => pe_op op_cat (pe_lst (pa_cons pe_str pa_nil)) (pe_callTy call_list_of (by rfl) T.m_list bt_list (pa_cons (pv 10) pa_nil))))))
      (pss_cons (ps_set (i := 8) sc_lt.nd rfl (Or.inl rfl) (pe_op op_cat (pv 8) (pe_op op_rep (pe_lst (pa_cons (pe_op op_cat (pe_lst (pa_cons pe_str pa_nil)) (pe_callTy call_list_of (by rfl) T.m_list bt_list (pa_cons (pv 4) pa_nil))) pa_nil)) (pe_callTy call_int1 (by rfl) T.m_int bt_int (pa_cons (pe_cmpR (op_neD hr.units) (pv 4) (pe_tup pa_nil) (nomark _)) pa_nil)))))
      (pss_cons (ps_set (i := 8) sc_lt.nd rfl (Or.inl rfl) (pe_op op_cat (pv 8) (pe_op op_rep (pe_lst (pa_cons (pe_op op_cat (pe_lst (pa_cons pe_str pa_nil)) (pe_callTy call_list_of (by rfl) T.m_list bt_list (pa_cons (pv 5) pa_nil))) pa_nil)) (pe_callTy call_int1 (by rfl) T.m_int bt_int (pa_cons (pe_cmpR (op_neD hr.units) (pv 5) (pe_tup pa_nil) (nomark _)) pa_nil)))))
      (pss_cons (ps_for PassesOwn.never rfl (pi_tup (pv 6)) (pg_name (i := 9) sc_lt.nd rfl (.inl rfl))
        (pss_cons (ps_expr (pe_bm PySem.F.plainAttrs_list PySem.F.slot_list_append PySem.F.type_list_append mt_append (pv 8) (pa_cons (pe_lst (pa_cons pe_str pa_nil)) pa_nil)))
        (pss_one (ps_expr (pe_bm PySem.F.plainAttrs_list PySem.F.slot_list_extend PySem.F.type_list_extend mt_extend (pv 8) (pa_cons
          (pe_lc (own := [("_law_part", 11), ("_law_deed_here", 12)]) (g := gTup K 2 (gCons (gName 11) (gCons (gName 12) gNil))) (tt := tYes) (te := tOp rCat (tCB (rLst K) (tCons (tVar 11) tNil)) (tCB (rLst K) (tCons (tVar 12) tNil))) rfl sc_lt.nd (pi_tup (pv 9)) (blkOk_by (by kernel_rfl))
            (fun _ _ _ _ _ => pg_tup rfl (pgs_cons (pg_name (i := 11) sc_lt.nd rfl (.inl rfl)) (pgs_cons (pg_name (i := 12) sc_lt.nd rfl (.inl rfl)) pgs_nil))) (fun _ _ _ _ _ => pts_nil)
            (fun _ _ _ _ _ => pe_op op_cat (pe_callTy call_list_of (by rfl) T.m_list bt_list (pa_cons (pv 11) pa_nil)) (pe_callTy call_list_of (by rfl) T.m_list bt_list (pa_cons (pv 12) pa_nil)))) pa_nil))))))
      (pss_cons (ps_set (i := 8) sc_lt.nd rfl (Or.inl rfl) (pe_op op_cat (pv 8) (pe_op op_rep (pe_lst (pa_cons (pe_op op_cat (pe_lst (pa_cons pe_str pa_nil)) (pe_callTy call_list_of (by rfl) T.m_list bt_list (pa_cons (pv 7) pa_nil))) pa_nil)) (pe_callTy call_int1 (by rfl) T.m_int bt_int (pa_cons (pe_cmpR (op_neD hr.units) (pv 7) (pe_tup pa_nil) (nomark _)) pa_nil)))))
      (pss_one (ps_ret (pe_join pe_str (pe_lc (own := [("_law_row", 13)]) (g := gName 13) (tt := tYes) (te := tM1 (fun x xs H Q => ∃ a p, ∃ ys : List Str, x = .str a ∧ xs = [.ref p] ∧ (SqL K H p (ys.map V.str) ∨ SqT K H p (ys.map V.str)) ∧ (ys.map (·.length)).sum + ys.length * a.length ≤ 16777216 ∧ Q (.str (Txt.join a ys)) H) (tC (.str " ")) (tLc (iList K (tVar 13)) (gName 14) tYes (tCB rStrW (tCons (tVar 14) tNil)) [14])) rfl sc_lt.nd (pi_list (pv 8)) (blkOk_by (by kernel_rfl))
          (fun _ _ _ _ _ => pg_name (i := 13) sc_lt.nd rfl (.inl rfl)) (fun _ _ _ _ _ => pts_nil)
          (fun _ _ _ _ _ => pe_join pe_str (pe_lc (own := [("_law_word", 14)]) (g := gName 14) (tt := tYes) (te := tCB rStrW (tCons (tVar 14) tNil)) rfl sc_lt.nd (pi_list (pv 13)) (blkOk_by (by kernel_rfl)) (fun _ _ _ _ _ => pg_name (i := 14) sc_lt.nd rfl (.inl rfl)) (fun _ _ _ _ _ => pts_nil) (fun _ _ _ _ _ => pe_callTy call_strW (by rfl) T.m_str bt_str (pa_cons (pv 14) pa_nil)))))))))))))), ?_⟩
    obtain ⟨a, m, g, hh, sf, c, o, rfl, Ad⟩ := dp_show hd
    have hst := hV.st
    have hml := hV.ml
    have hgl := hV.gl
    have hcl := hV.cl
    have hhl := hV.hl
    have hsl := hV.sl
    have hol := hV.ol
    have hln : S.lines = S.strips + S.members.length := rfl
    obtain ⟨ms, hms, dms, lms⟩ := tup_ints Ad.mem
    obtain ⟨gs, hgs, dgs, lgs⟩ := tup_ints Ad.gng
    have bm : ∀ l ∈ S.members, l.length ≤ 9 := fun l hl => by
      have := (hV.mr l hl).len (by omega)
      omega
    have bg : ∀ l ∈ S.gangs, l.length ≤ 9 := fun l hl => by
      have := (hV.gr l hl).1.len (by omega)
      omega
    refine ⟨_, rfl, a, _, rfl, Ad.top, rfl, _, _, rfl, _, _, rfl, _, _, rfl, _, _, rfl, _, _, rfl, _, _, rfl, _, _, rfl, rfl, ?_⟩
    refine ⟨_, rfl, size2, fun p1 np1 => ⟨size1, fun p2 np2 => ?_⟩⟩
    have c1 := same_new (o := .lst [V.str "strips", V.int S.strips]) np1
    have c2 := same_new (o := .lst [V.ref p1]) np2
    have s0 := c1.trans c2
    have e1 : RowL (upd (upd H p1 (.lst [V.str "strips", V.int S.strips])) p2 (.lst [V.ref p1])) p1 [.s "strips", .i S.strips] := c2 _ _ upd_same
    have e2 : (upd (upd H p1 (.lst [V.str "strips", V.int S.strips])) p2 (.lst [V.ref p1])) p2 = some (.lst [V.ref p1]) := upd_same
    generalize upd (upd H p1 (.lst [V.str "strips", V.int S.strips])) p2 (.lst [V.ref p1]) = H2 at s0 e1 e2 ⊢
    clear c1 c2 np1 np2
    refine ⟨_, rfl, m, rfl, ⟨_, (same_fix s0).seqT hms⟩, fun D nD => ?_⟩
    refine lc_lists (G := fun H => SqT K H m ms) walk_tup (S.members.map fun ns => (lineOf "group" ns).map W.v) (by rw [List.length_map, lms]) nD (by rw [lms]; omega) (fun H1 s1 => (same_fix (s0.trans s1)).seqT hms) ?_ ?_
    · rintro i x l H3 H4 hi el s3 ⟨rfl, ex⟩ Qe Qf qe
      have hi2 : i < S.members.length := by omega
      obtain ⟨dd, ed2, dx⟩ := dpAll_at (DpAll.fix (same_fix (s0.trans s3)) _ _ dms) ex
      rw [List.getElem?_map, List.getElem?_eq_getElem hi2] at ed2
      obtain rfl := Option.some.inj ed2
      obtain ⟨oa, rfl, hoa⟩ := dp_ints dx
      rw [List.getElem?_map, List.getElem?_eq_getElem hi2] at el
      obtain rfl := Option.some.inj el
      refine ⟨rfl, ⟨size1, fun p1 np1 => ⟨_, rfl, oa, _, rfl, .inr ((same_fix (same_new np1)).seqT hoa), fun p2 np2 => ?_⟩⟩⟩
      have c1 := same_new (o := .lst [V.str "group"]) np1
      have c2 := same_new (o := .lst (S.members[i].map V.int)) np2
      have := bm S.members[i] (List.getElem_mem hi2)
      refine ⟨p1, p2, _, _, rfl, rfl, c2 _ _ upd_same, upd_same, Nat.le_of_lt (small (by rw [List.length_map, List.length_singleton]; omega)), fun p3 np3 => ?_⟩
      rw [line_v]
      exact qe p3 _ ((c1.trans c2).trans (same_new np3)) (c1.free (c2.free np3)) upd_same
    intro H5 ps s5 eD hps
    have lps := Paired.length hps
    rw [List.length_map] at lps
    refine ⟨p2, D, _, _, rfl, rfl, s5 _ _ e2, eD, Nat.le_of_lt (small (by rw [List.length_map, List.length_singleton]; omega)), fun p3 np3 => ?_⟩
    have rr : RL (upd H5 p3 (.lst ([V.ref p1] ++ ps.map V.ref))) p3 ([[.s "strips", .i S.strips]] ++ S.members.map (lineOf "group")) := RL.cat (ps := [p1]) (a := [[.s "strips", .i S.strips]]) np3 (.cons (s5 _ _ e1) .nil) (rl_of hps)
    have s0 := (s0.trans s5).trans (same_new (o := .lst ([V.ref p1] ++ ps.map V.ref)) np3)
    generalize upd H5 p3 (.lst ([V.ref p1] ++ ps.map V.ref)) = H6 at rr s0 ⊢
    clear eD e1 e2 s5 hps lps np3 nD
    -- gangs
    obtain ⟨ps, eR, dR⟩ := rr
    have lps := Paired.length dR
    rw [List.length_append, List.length_singleton, List.length_map] at lps
    refine ⟨_, rfl, _, rfl, g, rfl, ⟨_, (same_fix s0).seqT hgs⟩, fun D nD => ?_⟩
    refine lc_lists (G := fun H => SqT K H g gs) walk_tup (S.gangs.map fun ns => (lineOf "gang" ns).map W.v) (by rw [List.length_map, lgs]) nD (by rw [lgs]; omega) (fun H1 s1 => (same_fix (s0.trans s1)).seqT hgs) ?_ ?_
    · rintro i x l H3 H4 hi el s3 ⟨rfl, ex⟩ Qe Qf qe
      have hi2 : i < S.gangs.length := by omega
      obtain ⟨dd, ed2, dx⟩ := dpAll_at (DpAll.fix (same_fix (s0.trans s3)) _ _ dgs) ex
      rw [List.getElem?_map, List.getElem?_eq_getElem hi2] at ed2
      obtain rfl := Option.some.inj ed2
      obtain ⟨oa, rfl, hoa⟩ := dp_ints dx
      rw [List.getElem?_map, List.getElem?_eq_getElem hi2] at el
      obtain rfl := Option.some.inj el
      refine ⟨rfl, ⟨size1, fun p1 np1 => ⟨_, rfl, oa, _, rfl, .inr ((same_fix (same_new np1)).seqT hoa), fun p2 np2 => ?_⟩⟩⟩
      have c1 := same_new (o := .lst [V.str "gang"]) np1
      have c2 := same_new (o := .lst (S.gangs[i].map V.int)) np2
      have := bg S.gangs[i] (List.getElem_mem hi2)
      refine ⟨p1, p2, _, _, rfl, rfl, c2 _ _ upd_same, upd_same, Nat.le_of_lt (small (by rw [List.length_map, List.length_singleton]; omega)), fun p3 np3 => ?_⟩
      rw [line_v]
      exact qe p3 _ ((c1.trans c2).trans (same_new np3)) (c1.free (c2.free np3)) upd_same
    intro H7 ps2 s5 eD hps
    have lps2 := Paired.length hps
    rw [List.length_map] at lps2
    refine ⟨p3, D, _, _, rfl, rfl, s5 _ _ eR, eD, Nat.le_of_lt (small (by rw [List.length_map, List.length_map]; omega)), fun p4 np4 => ?_⟩
    have rr := RL.cat np4 (L2.Paired.mapP dR fun q r z => s5 _ _ z.2) (rl_of hps)
    have s0 := (s0.trans s5).trans (same_new (o := .lst (ps.map V.ref ++ ps2.map V.ref)) np4)
    generalize upd H7 p4 (.lst (ps.map V.ref ++ ps2.map V.ref)) = H8 at rr s0 ⊢
    clear eD s5 hps lps lps2 np4 nD eR dR
    have bd : ([[W.s "strips", W.i S.strips]] ++ S.members.map (lineOf "group") ++ S.gangs.map (lineOf "gang")).length ≤ 8 := by
      rw [List.length_append, List.length_append, List.length_singleton, List.length_map, List.length_map]
      omega
    -- hands
    obtain ⟨ps, eR, dR⟩ := rr
    have lps := Paired.length dR
    refine ⟨_, rfl, size1, fun p1 np1 => ?_⟩
    have c1 := same_new (o := .lst [V.str "hands"]) np1
    refine ⟨_, rfl, hh, _, rfl, .inr ((same_fix (s0.trans c1)).seqT Ad.hnd), fun p2 np2 => ?_⟩
    have c2 := same_new (o := .lst (S.hands.map V.int)) np2
    refine ⟨p1, p2, _, _, rfl, rfl, c2 _ _ upd_same, upd_same, Nat.le_of_lt (small (by rw [List.length_map, List.length_singleton]; omega)), fun p3 np3 => ?_⟩
    have c3 := same_new (o := .lst ([V.str "hands"] ++ S.hands.map V.int)) np3
    refine ⟨size1, fun p4 np4 => ?_⟩
    have c4 := same_new (o := .lst [V.ref p3]) np4
    refine ⟨_, rfl, size0, fun p5 np5 => ?_⟩
    have c5 := same_new (o := .tup []) np5
    have cc := (((c1.trans c2).trans c3).trans c4).trans c5
    refine ⟨dInts S.hands, .tuple [], ints_dp ((same_fix (s0.trans cc)).seqT Ad.hnd), .tup (.of upd_same) .nil, shaped_ints _, shaped_nil, .inr ⟨_, rfl, ?_⟩⟩
    rw [eqv_ints_nil]
    have e3 : RowL (upd (upd (upd (upd (upd H8 p1 (.lst [V.str "hands"])) p2 (.lst (S.hands.map V.int))) p3 (.lst ([V.str "hands"] ++ S.hands.map V.int))) p4 (.lst [V.ref p3])) p5 (.tup [])) p3 (lineOf "hands" S.hands) := by
      unfold RowL
      rw [← line_v]
      exact (c4.trans c5) _ _ upd_same
    have e4 : (upd (upd (upd (upd (upd H8 p1 (.lst [V.str "hands"])) p2 (.lst (S.hands.map V.int))) p3 (.lst ([V.str "hands"] ++ S.hands.map V.int))) p4 (.lst [V.ref p3])) p5 (.tup [])) p4 = some (.lst [V.ref p3]) := c5 _ _ upd_same
    have eR5 := cc _ _ eR
    have dR5 : Paired (fun q r => RowL (upd (upd (upd (upd (upd H8 p1 (.lst [V.str "hands"])) p2 (.lst (S.hands.map V.int))) p3 (.lst ([V.str "hands"] ++ S.hands.map V.int))) p4 (.lst [V.ref p3])) p5 (.tup [])) q r) ps _ := L2.Paired.mapP dR fun q r z => cc _ _ z.2
    have s5 := s0.trans cc
    generalize upd (upd (upd (upd (upd H8 p1 (.lst [V.str "hands"])) p2 (.lst (S.hands.map V.int))) p3 (.lst ([V.str "hands"] ++ S.hands.map V.int))) p4 (.lst [V.ref p3])) p5 (.tup []) = H5 at e3 e4 eR5 dR5 s5 ⊢
    clear cc c1 c2 c3 c4 c5 np1 np2 np3 np4 np5 eR dR s0
    have hz : (List.replicate (if (!decide (S.hands = [])) = true then (1 : Int) else 0).toNat [V.ref p3]).flatten = ((if S.hands = [] then [] else [p3]) : List Addr).map V.ref := by
      by_cases hn : S.hands = []
      · rw [decide_eq_true hn, if_pos hn]
        rfl
      · rw [decide_eq_false hn, if_neg hn]
        rfl
    generalize hkk : (if (!decide (S.hands = [])) = true then (1 : Int) else 0) = kk at hz ⊢
    have hk01 : kk = 0 ∨ kk = 1 := by
      rw [← hkk]
      split
      · exact .inr rfl
      · exact .inl rfl
    refine ⟨p4, kk, [V.ref p3], rfl, rfl, e4, by omega, by omega, by rcases hk01 with e | e <;> rw [e] <;> first | exact size0 | exact size1, fun p6 np6 => ?_⟩
    rw [hz]
    have d2 : Paired (fun q r => RowL H5 q r) (if S.hands = [] then [] else [p3]) (someLine "hands" S.hands) := by
      unfold someLine
      by_cases hn : S.hands = []
      · rw [if_pos hn, if_pos hn]
        exact .nil
      · rw [if_neg hn, if_neg hn]
        exact .cons e3 .nil
    have l6 : ((if S.hands = [] then [] else [p3]) : List Addr).length ≤ 1 := by split <;> simp
    generalize ((if S.hands = [] then [] else [p3]) : List Addr) = zs at hz d2 l6 ⊢
    have c6 := same_new (o := .lst (zs.map V.ref)) np6
    refine ⟨_, p6, ps.map V.ref, _, rfl, rfl, c6 _ _ eR5, upd_same, Nat.le_of_lt (small (by rw [List.length_map, List.length_map]; omega)), fun p7 np7 => ?_⟩
    have rr := RL.cat np7 (L2.Paired.mapP dR5 fun q r z => c6 _ _ z) (L2.Paired.mapP d2 fun q r z => c6 _ _ z)
    have s0 := (s5.trans c6).trans (same_new (o := .lst (ps.map V.ref ++ zs.map V.ref)) np7)
    have nR := s5.free (c6.free np7)
    generalize upd (upd H5 p6 (.lst (zs.map V.ref))) p7 (.lst (ps.map V.ref ++ zs.map V.ref)) = H9 at rr s0 ⊢
    clear hz d2 l6 np7 np6 c6 s5 dR5 eR5 e4 e3 hkk hk01
    -- safes
    have bd := len_some (x := "hands") (ns := S.hands) bd
    obtain ⟨ps, eR, dR⟩ := rr
    have lps := Paired.length dR
    refine ⟨_, rfl, size1, fun p1 np1 => ?_⟩
    have c1 := same_new (o := .lst [V.str "safes"]) np1
    refine ⟨_, rfl, sf, _, rfl, .inr ((same_fix (s0.trans c1)).seqT Ad.saf), fun p2 np2 => ?_⟩
    have c2 := same_new (o := .lst (S.safes.map V.int)) np2
    refine ⟨p1, p2, _, _, rfl, rfl, c2 _ _ upd_same, upd_same, Nat.le_of_lt (small (by rw [List.length_map, List.length_singleton]; omega)), fun p3 np3 => ?_⟩
    have c3 := same_new (o := .lst ([V.str "safes"] ++ S.safes.map V.int)) np3
    refine ⟨size1, fun p4 np4 => ?_⟩
    have c4 := same_new (o := .lst [V.ref p3]) np4
    refine ⟨_, rfl, size0, fun p5 np5 => ?_⟩
    have c5 := same_new (o := .tup []) np5
    have cc := (((c1.trans c2).trans c3).trans c4).trans c5
    refine ⟨dInts S.safes, .tuple [], ints_dp ((same_fix (s0.trans cc)).seqT Ad.saf), .tup (.of upd_same) .nil, shaped_ints _, shaped_nil, .inr ⟨_, rfl, ?_⟩⟩
    rw [eqv_ints_nil]
    have e3 : RowL (upd (upd (upd (upd (upd H9 p1 (.lst [V.str "safes"])) p2 (.lst (S.safes.map V.int))) p3 (.lst ([V.str "safes"] ++ S.safes.map V.int))) p4 (.lst [V.ref p3])) p5 (.tup [])) p3 (lineOf "safes" S.safes) := by
      unfold RowL
      rw [← line_v]
      exact (c4.trans c5) _ _ upd_same
    have e4 : (upd (upd (upd (upd (upd H9 p1 (.lst [V.str "safes"])) p2 (.lst (S.safes.map V.int))) p3 (.lst ([V.str "safes"] ++ S.safes.map V.int))) p4 (.lst [V.ref p3])) p5 (.tup [])) p4 = some (.lst [V.ref p3]) := c5 _ _ upd_same
    have eR5 := cc _ _ eR
    have dR5 : Paired (fun q r => RowL (upd (upd (upd (upd (upd H9 p1 (.lst [V.str "safes"])) p2 (.lst (S.safes.map V.int))) p3 (.lst ([V.str "safes"] ++ S.safes.map V.int))) p4 (.lst [V.ref p3])) p5 (.tup [])) q r) ps _ := L2.Paired.mapP dR fun q r z => cc _ _ z.2
    have s5 := s0.trans cc
    generalize upd (upd (upd (upd (upd H9 p1 (.lst [V.str "safes"])) p2 (.lst (S.safes.map V.int))) p3 (.lst ([V.str "safes"] ++ S.safes.map V.int))) p4 (.lst [V.ref p3])) p5 (.tup []) = H5 at e3 e4 eR5 dR5 s5 ⊢
    clear cc c1 c2 c3 c4 c5 np1 np2 np3 np4 np5 eR dR s0
    have hz : (List.replicate (if (!decide (S.safes = [])) = true then (1 : Int) else 0).toNat [V.ref p3]).flatten = ((if S.safes = [] then [] else [p3]) : List Addr).map V.ref := by
      by_cases hn : S.safes = []
      · rw [decide_eq_true hn, if_pos hn]
        rfl
      · rw [decide_eq_false hn, if_neg hn]
        rfl
    generalize hkk : (if (!decide (S.safes = [])) = true then (1 : Int) else 0) = kk at hz ⊢
    have hk01 : kk = 0 ∨ kk = 1 := by
      rw [← hkk]
      split
      · exact .inr rfl
      · exact .inl rfl
    refine ⟨p4, kk, [V.ref p3], rfl, rfl, e4, by omega, by omega, by rcases hk01 with e | e <;> rw [e] <;> first | exact size0 | exact size1, fun p6 np6 => ?_⟩
    rw [hz]
    have d2 : Paired (fun q r => RowL H5 q r) (if S.safes = [] then [] else [p3]) (someLine "safes" S.safes) := by
      unfold someLine
      by_cases hn : S.safes = []
      · rw [if_pos hn, if_pos hn]
        exact .nil
      · rw [if_neg hn, if_neg hn]
        exact .cons e3 .nil
    have l6 : ((if S.safes = [] then [] else [p3]) : List Addr).length ≤ 1 := by split <;> simp
    generalize ((if S.safes = [] then [] else [p3]) : List Addr) = zs at hz d2 l6 ⊢
    have c6 := same_new (o := .lst (zs.map V.ref)) np6
    refine ⟨_, p6, ps.map V.ref, _, rfl, rfl, c6 _ _ eR5, upd_same, Nat.le_of_lt (small (by rw [List.length_map, List.length_map]; omega)), fun p7 np7 => ?_⟩
    have rr := RL.cat np7 (L2.Paired.mapP dR5 fun q r z => c6 _ _ z) (L2.Paired.mapP d2 fun q r z => c6 _ _ z)
    have s0 := (s5.trans c6).trans (same_new (o := .lst (ps.map V.ref ++ zs.map V.ref)) np7)
    have nR := s5.free (c6.free np7)
    generalize upd (upd H5 p6 (.lst (zs.map V.ref))) p7 (.lst (ps.map V.ref ++ zs.map V.ref)) = H10 at rr s0 ⊢
    clear hz d2 l6 np7 np6 c6 s5 dR5 eR5 e4 e3 hkk hk01
    have bd := len_some (x := "safes") (ns := S.safes) bd
    have hpre : [[W.s "strips", W.i S.strips]] ++ S.members.map (lineOf "group") ++ S.gangs.map (lineOf "gang") ++ someLine "hands" S.hands ++ someLine "safes" S.safes = [[W.s "strips", W.i S.strips]] ++ S.members.map (lineOf "group") ++ S.gangs.map (lineOf "gang") ++ someLine "hands" S.hands ++ someLine "safes" S.safes := rfl
    generalize hpp : [[W.s "strips", W.i S.strips]] ++ S.members.map (lineOf "group") ++ S.gangs.map (lineOf "gang") ++ someLine "hands" S.hands ++ someLine "safes" S.safes = pre at rr bd
    clear hpre
    -- scenes
    obtain ⟨_, cs, ec, hcs, dcs⟩ := dp_tup Ad.scn
    cases ec
    have lcs : cs.length = S.scenes.length := by rw [dpAll_len dcs, List.length_map]
    have nRR := nR
    refine ⟨_, rfl, c, rfl, ⟨_, (same_fix s0).seqT hcs⟩, ?_⟩
    refine for_tup (xs := cs) (fun i σ' H' => (∃ x, σ' = [some (.ref a), some (.int S.strips), some (.ref m), some (.ref g), some (.ref hh), some (.ref sf), some (.ref c), some (.ref o), some (.ref p7), x, none, none, none, none, none]) ∧ Same H H' ∧ RL H' p7 (pre ++ ((S.scenes.take i).map sceneRows).flatten) ∧ (pre ++ ((S.scenes.take i).map sceneRows).flatten).length ≤ 10 + 13 * i)
      ⟨⟨_, rfl⟩, s0, ?_, ?_⟩ (fun i σ' H' _ z => (same_fix z.2.1).seqT hcs) ?_ ?_
    · rw [List.take_zero, List.map_nil, List.flatten_nil, List.append_nil]
      exact rr
    · rw [List.take_zero, List.map_nil, List.flatten_nil, List.append_nil]
      omega
    · rintro i x σ' H1 ex ⟨⟨y, rfl⟩, s1, ⟨ps, eR, dR⟩, bd1⟩
      have lps := Paired.length dR
      have hi : i < S.scenes.length := by rw [← lcs]; exact (List.getElem?_eq_some_iff.mp ex).1
      obtain ⟨dd, ed, dx⟩ := dpAll_at dcs ex
      rw [List.getElem?_map, List.getElem?_eq_getElem hi] at ed
      obtain rfl := Option.some.inj ed
      obtain ⟨sa, es, rfl, hes, des⟩ := dp_tup dx
      have les : es.length = S.scenes[i].length := by rw [dpAll_len des, List.length_map]
      have l12 := (hV.cr S.scenes[i] (List.getElem_mem _)).1
      refine ⟨_, rfl, .inl ⟨rfl, _, .of eR⟩, size1, fun p1 np1 => ?_⟩
      have c1 := same_new (o := .lst [V.str "scene"]) np1
      have n1 : p1 ≠ p7 := (ne_of_none eR np1).symm
      refine ⟨p7, _, .ref p1, rfl, rfl, c1 _ _ eR, small (by rw [List.length_map]; omega), ?_⟩
      have rr := RL.put (R := p7) (ps2 := [p1]) (b := [[.s "scene"]]) (L2.Paired.mapP dR fun q r z => ⟨z.1, c1 _ _ z.2⟩) (.cons ⟨n1, upd_same⟩ .nil)
      have rr : RL (upd (upd H1 p1 (.lst [V.str "scene"])) p7 (.lst (ps.map V.ref ++ [V.ref p1]))) p7 (pre ++ ((S.scenes.take i).map sceneRows).flatten ++ [[.s "scene"]]) := rr
      have s2 := same_at nRR (s1.trans c1) (o := .lst (ps.map V.ref ++ [V.ref p1]))
      generalize upd (upd H1 p1 (.lst [V.str "scene"])) p7 (.lst (ps.map V.ref ++ [V.ref p1])) = H2 at rr s2 ⊢
      clear c1 eR dR np1 n1 lps
      obtain ⟨ps, eR, dR⟩ := rr
      have lps := Paired.length dR
      rw [List.length_append, List.length_singleton] at lps
      refine ⟨_, rfl, .inl ⟨rfl, _, .of eR⟩, _, rfl, sa, rfl, ⟨_, (same_fix s2).seqT hes⟩, fun D nD => ?_⟩
      refine lc_lists (G := fun H => SqT K H sa es) walk_tup (S.scenes[i].map fun e => e.w.map W.v) (by rw [List.length_map, les]) nD (by omega) (fun H1 s1 => (same_fix (s2.trans s1)).seqT hes) ?_ ?_
      · rintro j x l H3 H4 hj el s3 ⟨rfl, ex⟩ Qe Qf qe
        obtain ⟨dd, ed2, dx⟩ := dpAll_at (DpAll.fix (same_fix (s2.trans s3)) _ _ des) ex
        have hj2 : j < S.scenes[i].length := by omega
        rw [List.getElem?_map, List.getElem?_eq_getElem hj2] at ed2
        obtain rfl := Option.some.inj ed2
        obtain ⟨t, p, q2, rfl, ht, hp, hq⟩ := dp_ent dx
        rw [List.getElem?_map, List.getElem?_eq_getElem hj2] at el
        obtain rfl := Option.some.inj el
        refine ⟨t, _, rfl, ht, rfl, _, _, rfl, _, _, rfl, ⟨rfl, rfl, ⟨_, rfl, p, _, rfl, .inr hp, fun l1 nl1 => ?_⟩⟩⟩
        have c1 := same_new (o := .lst [V.str (kindS S.scenes[i][j].mute), V.int S.scenes[i][j].line]) nl1
        refine ⟨_, rfl, q2, _, rfl, .inr ((same_fix c1).seqT hq), fun l2 nl2 => ?_⟩
        have c2 := same_new (o := .lst (S.scenes[i][j].deed.w.map W.v)) nl2
        have := deed_len S.scenes[i][j].deed
        refine ⟨l1, l2, _, _, rfl, rfl, c2 _ _ upd_same, upd_same, Nat.le_of_lt (small (by rw [List.length_map]; show 2 + _ ≤ 1000; omega)), fun l3 nl3 => ?_⟩
        exact qe l3 _ ((c1.trans c2).trans (same_new nl3)) (c1.free (c2.free nl3)) upd_same
      · intro H5 ps2 s5 eD hps
        have lps2 := Paired.length hps
        rw [List.length_map] at lps2
        refine ⟨p7, D, _, _, rfl, rfl, s5 _ _ eR, eD, Nat.le_of_lt (small (by rw [List.length_map, List.length_map]; omega)), ?_⟩
        have r6 := RL.put (L2.Paired.mapP dR fun q r z => ⟨z.1, s5 _ _ z.2⟩) (re_of eR hps)
        have ee : pre ++ ((S.scenes.take i).map sceneRows).flatten ++ [[W.s "scene"]] ++ S.scenes[i].map Ent.w = pre ++ ((S.scenes.take (i + 1)).map sceneRows).flatten := by
          rw [List.take_succ_eq_append_getElem hi, List.map_append, List.flatten_append, List.append_assoc, List.append_assoc]
          congr 2
          rw [List.map_singleton, List.flatten_singleton]
          rfl
        rw [ee] at r6
        refine ⟨⟨_, rfl⟩, same_at nRR (s2.trans s5), r6, ?_⟩
        rw [← ee, List.length_append, List.length_append, List.length_singleton, List.length_map]
        omega
    rintro σ' H11 ⟨⟨y, rfl⟩, s0, rr, bd⟩
    rw [lcs, List.take_length] at rr bd
    have hrows : pre ++ (S.scenes.map sceneRows).flatten ++ someLine "list" S.order = rows S := by
      rw [← hpp]
      unfold rows
      simp only [List.append_assoc, List.cons_append, List.nil_append]
    generalize pre ++ (S.scenes.map sceneRows).flatten = pre2 at rr bd hrows
    -- the list
    obtain ⟨ps, eR, dR⟩ := rr
    have lps := Paired.length dR
    refine ⟨_, rfl, size1, fun p1 np1 => ?_⟩
    have c1 := same_new (o := .lst [V.str "list"]) np1
    refine ⟨_, rfl, o, _, rfl, .inr ((same_fix (s0.trans c1)).seqT Ad.ord), fun p2 np2 => ?_⟩
    have c2 := same_new (o := .lst (S.order.map V.int)) np2
    refine ⟨p1, p2, _, _, rfl, rfl, c2 _ _ upd_same, upd_same, Nat.le_of_lt (small (by rw [List.length_map, List.length_singleton]; omega)), fun p3 np3 => ?_⟩
    have c3 := same_new (o := .lst ([V.str "list"] ++ S.order.map V.int)) np3
    refine ⟨size1, fun p4 np4 => ?_⟩
    have c4 := same_new (o := .lst [V.ref p3]) np4
    refine ⟨_, rfl, size0, fun p5 np5 => ?_⟩
    have c5 := same_new (o := .tup []) np5
    have cc := (((c1.trans c2).trans c3).trans c4).trans c5
    refine ⟨dInts S.order, .tuple [], ints_dp ((same_fix (s0.trans cc)).seqT Ad.ord), .tup (.of upd_same) .nil, shaped_ints _, shaped_nil, .inr ⟨_, rfl, ?_⟩⟩
    rw [eqv_ints_nil]
    have e3 : RowL (upd (upd (upd (upd (upd H11 p1 (.lst [V.str "list"])) p2 (.lst (S.order.map V.int))) p3 (.lst ([V.str "list"] ++ S.order.map V.int))) p4 (.lst [V.ref p3])) p5 (.tup [])) p3 (lineOf "list" S.order) := by
      unfold RowL
      rw [← line_v]
      exact (c4.trans c5) _ _ upd_same
    have e4 : (upd (upd (upd (upd (upd H11 p1 (.lst [V.str "list"])) p2 (.lst (S.order.map V.int))) p3 (.lst ([V.str "list"] ++ S.order.map V.int))) p4 (.lst [V.ref p3])) p5 (.tup [])) p4 = some (.lst [V.ref p3]) := c5 _ _ upd_same
    have eR5 := cc _ _ eR
    have dR5 : Paired (fun q r => RowL (upd (upd (upd (upd (upd H11 p1 (.lst [V.str "list"])) p2 (.lst (S.order.map V.int))) p3 (.lst ([V.str "list"] ++ S.order.map V.int))) p4 (.lst [V.ref p3])) p5 (.tup [])) q r) ps _ := L2.Paired.mapP dR fun q r z => cc _ _ z.2
    have s5 := s0.trans cc
    generalize upd (upd (upd (upd (upd H11 p1 (.lst [V.str "list"])) p2 (.lst (S.order.map V.int))) p3 (.lst ([V.str "list"] ++ S.order.map V.int))) p4 (.lst [V.ref p3])) p5 (.tup []) = H5 at e3 e4 eR5 dR5 s5 ⊢
    clear cc c1 c2 c3 c4 c5 np1 np2 np3 np4 np5 eR dR s0
    have hz : (List.replicate (if (!decide (S.order = [])) = true then (1 : Int) else 0).toNat [V.ref p3]).flatten = ((if S.order = [] then [] else [p3]) : List Addr).map V.ref := by
      by_cases hn : S.order = []
      · rw [decide_eq_true hn, if_pos hn]
        rfl
      · rw [decide_eq_false hn, if_neg hn]
        rfl
    generalize hkk : (if (!decide (S.order = [])) = true then (1 : Int) else 0) = kk at hz ⊢
    have hk01 : kk = 0 ∨ kk = 1 := by
      rw [← hkk]
      split
      · exact .inr rfl
      · exact .inl rfl
    refine ⟨p4, kk, [V.ref p3], rfl, rfl, e4, by omega, by omega, by rcases hk01 with e | e <;> rw [e] <;> first | exact size0 | exact size1, fun p6 np6 => ?_⟩
    rw [hz]
    have d2 : Paired (fun q r => RowL H5 q r) (if S.order = [] then [] else [p3]) (someLine "list" S.order) := by
      unfold someLine
      by_cases hn : S.order = []
      · rw [if_pos hn, if_pos hn]
        exact .nil
      · rw [if_neg hn, if_neg hn]
        exact .cons e3 .nil
    have l6 : ((if S.order = [] then [] else [p3]) : List Addr).length ≤ 1 := by split <;> simp
    generalize ((if S.order = [] then [] else [p3]) : List Addr) = zs at hz d2 l6 ⊢
    have c6 := same_new (o := .lst (zs.map V.ref)) np6
    refine ⟨_, p6, ps.map V.ref, _, rfl, rfl, c6 _ _ eR5, upd_same, Nat.le_of_lt (small (by rw [List.length_map, List.length_map]; omega)), fun p7 np7 => ?_⟩
    have rr := RL.cat np7 (L2.Paired.mapP dR5 fun q r z => c6 _ _ z) (L2.Paired.mapP d2 fun q r z => c6 _ _ z)
    have s0 := (s5.trans c6).trans (same_new (o := .lst (ps.map V.ref ++ zs.map V.ref)) np7)
    have nR := s5.free (c6.free np7)
    generalize upd (upd H5 p6 (.lst (zs.map V.ref))) p7 (.lst (ps.map V.ref ++ zs.map V.ref)) = H12 at rr s0 ⊢
    clear hz d2 l6 np7 np6 c6 s5 dR5 eR5 e4 e3 hkk hk01
    rw [hrows] at rr
    obtain ⟨rz, eZ, dZ⟩ := rr
    have lz := Paired.length dZ
    have lr := hV.rows_len
    have lzm : (rz.map V.ref).length = rz.length := List.length_map _
    refine ⟨⟨_, rfl⟩, _, rfl, p7, rfl, ⟨_, .of eZ⟩, fun D nD => ?_⟩
    refine lc_vals (G := fun H => SqL K H p7 (rz.map V.ref)) walk_list (fun i => V.str ((((rows S).map rowT)[i]?).getD "")) nD (by omega) (fun H1 s1 => .of (s1 _ _ eZ)) ?_ ?_
    · rintro i x H13 H14 hi s13 ⟨rfl, ex⟩ Qe Qf qe
      have hi2 : i < (rows S).length := by omega
      obtain ⟨q2, e1, e2⟩ := paired_at dZ (List.getElem?_eq_getElem hi2)
      rw [List.getElem?_map, e1] at ex
      obtain rfl := Option.some.inj ex
      have hrow := s13 _ _ e2.2
      have ok := hV.rowOk _ (List.getElem_mem hi2)
      rw [List.getElem?_map, List.getElem?_eq_getElem hi2] at qe
      generalize (rows S)[i] = row at hrow ok qe
      have h10 := ok.2.1
      have lrm : (row.map W.v).length = row.length := List.length_map _
      refine ⟨rfl, ⟨⟨_, rfl⟩, _, rfl, q2, rfl, ⟨_, .of hrow⟩, fun D2 nD2 => ?_⟩⟩
      refine lc_vals (G := fun H => SqL K H q2 (row.map W.v)) walk_list (fun j => V.str (((row.map W.t)[j]?).getD "")) nD2 (by omega) (fun H1 s1 => .of (s1 _ _ hrow)) ?_ ?_
      · rintro j x H15 H16 hj s15 ⟨rfl, ex2⟩ Qe2 Qf2 qe2
        have hj2 : j < row.length := by omega
        rw [List.getElem?_map, List.getElem?_eq_getElem hj2] at ex2
        obtain rfl := Option.some.inj ex2
        rw [List.getElem?_map, List.getElem?_eq_getElem hj2] at qe2
        exact ⟨rfl, ⟨_, rfl, row[j], rfl, ok.2.2 _ (List.getElem_mem hj2), qe2 _ fun _ _ z => z⟩⟩
      · intro H15 s15 e15
        have el : (List.range (row.map W.v).length).map (fun j => V.str (((row.map W.t)[j]?).getD "")) = (row.map W.t).map V.str := by
          refine List.ext_getElem (by simp) fun i h1 h2 => ?_
          rw [List.length_map, List.length_range, List.length_map] at h1
          simp [h1]
        rw [el] at e15
        refine ⟨" ", D2, row.map W.t, rfl, rfl, .inl (.of e15), ?_, qe H15 s15⟩
        have a1 := sumlen_le 8 (row.map W.t) fun y hy => by
          obtain ⟨u, hu, rfl⟩ := List.mem_map.mp hy
          exact W.len (ok.2.2 u hu)
        rw [List.length_map] at a1 ⊢
        rw [sp_len]
        omega
    · intro H13 s13 e13
      have el : (List.range (rz.map V.ref).length).map (fun i => V.str ((((rows S).map rowT)[i]?).getD "")) = ((rows S).map rowT).map V.str := by
        refine List.ext_getElem (by simp [lz]) fun i h1 h2 => ?_
        rw [List.length_map, List.length_range] at h1
        have h3 : i < (rows S).length := by omega
        simp [h3]
      rw [el] at e13
      refine ⟨"\n", D, (rows S).map rowT, rfl, rfl, .inl (.of e13), ?_, q H13 (s0.trans s13)⟩
      have a1 := sumlen_le 90 ((rows S).map rowT) fun y hy => by
        obtain ⟨u, hu, rfl⟩ := List.mem_map.mp hy
        exact row_len (hV.rowOk u hu)
      rw [List.length_map] at a1 ⊢
      rw [nl_len]
      omega
end
end K33
/-! Shows as data: their repr, their equality. -/
namespace K33
open PySem PySem.Spec PyProof.Rows L2
/-! ### layable, showable, shallow -/
structure Fine (k m : Nat) (d : PyData) : Prop where
  lay : PyData.canLay0 d = true
  shw : d.showable = true
  dep : d.depth ≤ k
  len : d.shown.length ≤ m
theorem piled_le (m : Nat) : ∀ ts : List Str, (∀ t ∈ ts, t.length ≤ m) → piled ts ≤ ts.length * (m + 2)
  | [], _ => Nat.zero_le _
  | t :: ts, h => by
    have ih := piled_le m ts fun x hx => h x (List.mem_cons_of_mem _ hx)
    have h1 := h t List.mem_cons_self
    have e : piled (t :: ts) = t.length + 2 + piled ts := by simp [piled]
    rw [e, List.length_cons, Nat.succ_mul]
    omega
theorem tuple_len (m n : Nat) (ts : List Str) (hn : ts.length ≤ n) (h : ∀ t ∈ ts, t.length ≤ m) : (tupleText ts).length ≤ 3 + n * (m + 2) := by
  have p := piled_le m ts h
  have q : ts.length * (m + 2) ≤ n * (m + 2) := Nat.mul_le_mul hn (Nat.le_refl _)
  have j : (Str.join ", " ts).length ≤ piled ts := by
    by_cases e : ts = []
    · rw [e]
      exact Nat.zero_le _
    · have := join_length_add ts e
      omega
  have e : (tupleText ts).length ≤ 1 + (Str.join ", " ts).length + 2 := by
    unfold tupleText
    rw [strLen_append, strLen_append]
    have a : (("(" : Str)).length = 1 := by decide +kernel
    have b : (if ts.length == 1 then ((",)" : String) : Str) else ((")" : String) : Str)).length ≤ 2 := by
      split
      · exact (show ((",)" : String) : Str).length ≤ 2 by decide +kernel)
      · exact (show ((")" : String) : Str).length ≤ 2 by decide +kernel)
    have b2 : ((if ts.length == 1 then ",)" else ")" : String) : Str).length ≤ 2 := by
      split
      · exact (show ((",)" : String) : Str).length ≤ 2 by decide +kernel)
      · exact (show ((")" : String) : Str).length ≤ 2 by decide +kernel)
    omega
  omega
theorem fine_tup {k m n : Nat} {ds : List PyData} (hn : ds.length ≤ n) (h : ∀ d ∈ ds, Fine k m d) : Fine (k + 1) (3 + n * (m + 2)) (.tuple ds) := by
  refine ⟨lay_tup fun d hd => (h d hd).lay, ?_, dep_tup fun d hd => (h d hd).dep, ?_⟩
  · unfold PyData.showable
    clear hn
    induction ds with
    | nil => unfold PyData.showableAll; rfl
    | cons d ds ih =>
      unfold PyData.showableAll
      rw [(h d List.mem_cons_self).shw, ih fun e he => h e (List.mem_cons_of_mem _ he)]
      rfl
  · unfold PyData.shown
    have e : ∀ ds : List PyData, (∀ d ∈ ds, Fine k m d) → (PyData.shownAll ds).length = ds.length ∧ ∀ t ∈ PyData.shownAll ds, t.length ≤ m := by
      intro ds
      induction ds with
      | nil =>
        intro _
        unfold PyData.shownAll
        exact ⟨rfl, fun t ht => by cases ht⟩
      | cons d ds ih =>
        intro h
        obtain ⟨e1, e2⟩ := ih fun e he => h e (List.mem_cons_of_mem _ he)
        unfold PyData.shownAll
        refine ⟨by rw [List.length_cons, List.length_cons, e1], fun t ht => ?_⟩
        rcases List.mem_cons.mp ht with ht | ht
        · rw [ht]
          exact (h d List.mem_cons_self).len
        · exact e2 t ht
    obtain ⟨e1, e2⟩ := e ds h
    exact tuple_len m n _ (by omega) e2
theorem fine_int {n : Int} (h1 : -9999999 ≤ n) (h2 : n ≤ 9999999) : Fine 0 12 (.int n) := by
  refine ⟨lay_int n, ?_, Nat.le_of_eq (dep_int n), ?_⟩
  · unfold PyData.showable
    refine decide_eq_true ?_
    by_cases h0 : n.natAbs = 0
    · rw [h0]
      decide
    · have e : (2 : Nat) ^ 24 = 16777216 := by decide
      have l := (Nat.log2_lt (n := n.natAbs) (k := 24) h0).mpr (by omega)
      omega
  · unfold PyData.shown
    show (toString n : Str).length ≤ 12
    rw [intS_toString]
    unfold intS
    rw [SX.S_len]
    have := intL_len h1 h2
    omega
theorem fine_s {x : Str} (h1 : PyData.strOk x = true) (h2 : (reprText x).length ≤ 12) : Fine 0 12 (.str x) := by
  refine ⟨lay_str h1, by unfold PyData.showable; rfl, Nat.le_of_eq (dep_str x), ?_⟩
  unfold PyData.shown
  exact h2
theorem fine_kind (m : Bool) : Fine 0 12 (.str (kindS m)) := by
  cases m
  · exact fine_s sound_fader (by decide +kernel)
  · exact fine_s sound_mute (by decide +kernel)
theorem fine_nm (d : Deed) : Fine 0 12 (.str d.nm) := by
  cases d with
  | to x => exact fine_s sound_to (show (reprText "to").length ≤ 12 by decide +kernel)
  | by_ x => exact fine_s sound_by (show (reprText "by").length ≤ 12 by decide +kernel)
  | turn => exact fine_s sound_turn (by decide +kernel)
  | kept => exact fine_s sound_kept (by decide +kernel)
  | as_ x => exact fine_s sound_as (show (reprText "as").length ≤ 12 by decide +kernel)
theorem fine_ints {ns : List Int} (hl : ns.length ≤ 9) (h : ∀ n ∈ ns, 0 ≤ n ∧ n ≤ 100) : Fine 1 129 (dInts ns) := fine_tup (k := 0) (m := 12) (n := 9) (by rw [List.length_map]; exact hl) fun d hd => by
  obtain ⟨n, hn, rfl⟩ := List.mem_map.mp hd
  have := h n hn
  exact fine_int (by omega) (by omega)
theorem Fine.up {k m k2 m2 : Nat} {d : PyData} (h : Fine k m d) (a : k ≤ k2) (b : m ≤ m2) : Fine k2 m2 d := ⟨h.lay, h.shw, Nat.le_trans h.dep a, Nat.le_trans h.len b⟩
theorem fine_ent {lines : Int} {e : Ent} (hl : lines ≤ 9) (h : EntOk lines e) : Fine 2 129 e.d := by
  obtain ⟨h1, h2, h3⟩ := h
  have hx : ∀ x : Int, e.deed = .to x ∨ e.deed = .by_ x ∨ e.deed = .as_ x → -1000000 ≤ x ∧ x ≤ 1000000 := by
    intro x hx
    rcases hx with hx | hx | hx <;> rw [hx] at h3
    · have h3 : if e.mute = true then 0 ≤ x ∧ x ≤ 1 else -1000000 ≤ x ∧ x ≤ 1000000 := h3
      split at h3 <;> omega
    · have h3 : e.mute = false ∧ -1000000 ≤ x ∧ x ≤ 1000000 := h3
      omega
    · have h3 : 0 ≤ x ∧ x < lines ∧ x ≠ e.line := h3
      omega
  have f1 : Fine 1 31 (wsD [.s (kindS e.mute), .i e.line]) := fine_tup (k := 0) (m := 12) (n := 2) (by simp) fun d hd => by
    rcases List.mem_cons.mp hd with h | hd
    · rw [h]
      exact fine_kind _
    · rw [List.mem_singleton.mp hd]
      exact fine_int (by omega) (by omega)
  have f2 : Fine 1 31 (wsD e.deed.w) := by
    have key : ∀ ds : List PyData, ds.length ≤ 2 → (∀ d ∈ ds, Fine 0 12 d) → Fine 1 31 (.tuple ds) := fun ds a b => fine_tup (k := 0) (m := 12) (n := 2) a b
    have nm := fine_nm e.deed
    have two : ∀ (x : Int), -1000000 ≤ x ∧ x ≤ 1000000 → ∀ y : Str, Fine 0 12 (.str y) → Fine 1 31 (.tuple [.str y, .int x]) := fun x hx y hy => key _ (by simp) fun d hd => by
      rcases List.mem_cons.mp hd with h | hd
      · rw [h]
        exact hy
      · rw [List.mem_singleton.mp hd]
        exact fine_int (by omega) (by omega)
    have one : ∀ y : Str, Fine 0 12 (.str y) → Fine 1 31 (.tuple [.str y]) := fun y hy => key _ (by simp) fun d hd => by
      rw [List.mem_singleton.mp hd]
      exact hy
    cases hd : e.deed with
    | to x => rw [hd] at nm; exact two x (hx x (.inl hd)) _ nm
    | by_ x => rw [hd] at nm; exact two x (hx x (.inr (.inl hd))) _ nm
    | as_ x => rw [hd] at nm; exact two x (hx x (.inr (.inr hd))) _ nm
    | turn => rw [hd] at nm; exact one _ nm
    | kept => rw [hd] at nm; exact one _ nm
  exact (fine_tup (k := 1) (m := 31) (n := 2) (ds := [wsD [.s (kindS e.mute), .i e.line], wsD e.deed.w]) (by simp) fun d hd => by
    rcases List.mem_cons.mp hd with h | hd
    · rw [h]
      exact f1
    · rw [List.mem_singleton.mp hd]
      exact f2).up (by decide) (by decide)
theorem fine_show {s : Show} (h : Valid s) : Fine 5 200000 s.d := by
  have hl := h.lines
  have hst := h.st
  have hml := h.ml
  have rb : ∀ {ns : List Int} {m : Int}, Rising ns m → 0 ≤ m → m ≤ 9 → Fine 1 129 (dInts ns) := fun {ns m} hr h0 hm => by
    have l := hr.len h0
    exact fine_ints (by omega) fun n hn => by
      have := hr.1 n hn
      omega
  have ord : Fine 1 129 (dInts s.order) := fine_ints (by have := h.ol; omega) fun n hn => by
    have := h.orr n hn
    have := h.cl
    omega
  have mem : Fine 2 396 (.tuple (s.members.map dInts)) := fine_tup (k := 1) (m := 129) (n := 3) (by rw [List.length_map]; exact h.ml) fun d hd => by
    obtain ⟨l, hl2, rfl⟩ := List.mem_map.mp hd
    exact rb (h.mr l hl2) (by omega) (by omega)
  have gng : Fine 2 527 (.tuple (s.gangs.map dInts)) := fine_tup (k := 1) (m := 129) (n := 4) (by rw [List.length_map]; exact h.gl) fun d hd => by
    obtain ⟨l, hl2, rfl⟩ := List.mem_map.mp hd
    exact rb (h.gr l hl2).1 (by omega) (by omega)
  have scn : Fine 4 9471 (.tuple (s.scenes.map scD)) := fine_tup (k := 3) (m := 1575 + 1) (n := 6) (by rw [List.length_map]; exact h.cl) fun d hd => by
    obtain ⟨sc, hsc, rfl⟩ := List.mem_map.mp hd
    obtain ⟨c1, c2, c3⟩ := h.cr sc hsc
    exact (fine_tup (k := 2) (m := 129) (n := 12) (by rw [List.length_map]; exact c1) fun d hd => by
      obtain ⟨e, he, rfl⟩ := List.mem_map.mp hd
      exact fine_ent hl.2 (c2 e he)).up (by decide) (by decide)
  have all : ∀ d ∈ ([.int s.strips, .tuple (s.members.map dInts), .tuple (s.gangs.map dInts), dInts s.hands, dInts s.safes, .tuple (s.scenes.map scD), dInts s.order] : List PyData), Fine 4 9471 d := by
    intro d hd
    simp only [List.mem_cons, List.not_mem_nil, or_false] at hd
    rcases hd with rfl | rfl | rfl | rfl | rfl | rfl | rfl
    · exact (fine_int (by omega) (by omega)).up (by decide) (by decide)
    · exact mem.up (by decide) (by decide)
    · exact gng.up (by decide) (by decide)
    · exact (rb h.hr (by omega) (by omega)).up (by decide) (by decide)
    · exact (rb h.sr (by omega) (by omega)).up (by decide) (by decide)
    · exact scn
    · exact ord.up (by decide) (by decide)
  exact (fine_tup (k := 4) (m := 9471) (n := 7) (by simp) all).up (by decide) (by decide)
theorem Fine.shaped {k m : Nat} {d : PyData} (h : Fine k m d) (hk : k ≤ 64) : SeqAt.shaped d = true := shaped_by h.lay h.dep hk
/-! ### equality -/
mutual
def plainD : PyData → Bool
  | .int _ => true
  | .str _ => true
  | .tuple ds => plainDs ds
  | .none => false
  | .bool _ => false
  | .list _ => false
  | .dict _ => false
def plainDs : List PyData → Bool
  | [] => true
  | d :: ds => plainD d && plainDs ds
end
mutual
theorem eqv_eq : ∀ d e : PyData, plainD d = true → plainD e = true → PyData.eqv d e = true → d = e
  | .int a, .int b, _, _, h => by
    rw [eqv_int] at h
    rw [eq_of_beq h]
  | .str a, .str b, _, _, h => by
    rw [eqv_str] at h
    rw [eq_of_beq h]
  | .tuple a, .tuple b, ha, hb, h => by
    unfold PyData.eqv at h
    unfold plainD at ha hb
    rw [eqvs_eq a b ha hb h]
  | .int a, .str b, _, _, h => by unfold PyData.eqv at h; cases h
  | .int a, .tuple b, _, _, h => by unfold PyData.eqv at h; cases h
  | .str a, .int b, _, _, h => by unfold PyData.eqv at h; cases h
  | .str a, .tuple b, _, _, h => by unfold PyData.eqv at h; cases h
  | .tuple a, .int b, _, _, h => by unfold PyData.eqv at h; cases h
  | .tuple a, .str b, _, _, h => by unfold PyData.eqv at h; cases h
  | .none, _, h, _, _ => by unfold plainD at h; cases h
  | .bool _, _, h, _, _ => by unfold plainD at h; cases h
  | .list _, _, h, _, _ => by unfold plainD at h; cases h
  | .dict _, _, h, _, _ => by unfold plainD at h; cases h
  | _, .none, _, h, _ => by unfold plainD at h; cases h
  | _, .bool _, _, h, _ => by unfold plainD at h; cases h
  | _, .list _, _, h, _ => by unfold plainD at h; cases h
  | _, .dict _, _, h, _ => by unfold plainD at h; cases h
theorem eqvs_eq : ∀ ds es : List PyData, plainDs ds = true → plainDs es = true → PyData.eqvAll ds es = true → ds = es
  | [], [], _, _, _ => rfl
  | [], _ :: _, _, _, h => by unfold PyData.eqvAll at h; cases h
  | _ :: _, [], _, _, h => by unfold PyData.eqvAll at h; cases h
  | d :: ds, e :: es, h1, h2, h => by
    unfold PyData.eqvAll at h
    unfold plainDs at h1 h2
    rw [Bool.and_eq_true] at h h1 h2
    rw [eqv_eq d e h1.1 h2.1 h.1, eqvs_eq ds es h1.2 h2.2 h.2]
end
theorem plain_tup {ds : List PyData} (h : ∀ d ∈ ds, plainD d = true) : plainD (.tuple ds) = true := by
  unfold plainD
  induction ds with
  | nil => unfold plainDs; rfl
  | cons d ds ih =>
    unfold plainDs
    rw [h d List.mem_cons_self, ih fun e he => h e (List.mem_cons_of_mem _ he)]
    rfl
theorem plain_ws (ws : List W) : plainD (wsD ws) = true := plain_tup fun d hd => by
  obtain ⟨u, _, rfl⟩ := List.mem_map.mp hd
  cases u <;> (unfold W.d plainD; rfl)
theorem plain_ints (ns : List Int) : plainD (dInts ns) = true := plain_tup fun d hd => by
  obtain ⟨u, _, rfl⟩ := List.mem_map.mp hd
  unfold plainD
  rfl
theorem plain_lists (L : List (List Int)) : plainD (.tuple (L.map dInts)) = true := plain_tup fun d hd => by
  obtain ⟨u, _, rfl⟩ := List.mem_map.mp hd
  exact plain_ints u
theorem plain_show (s : Show) : plainD s.d = true := plain_tup fun d hd => by
  simp only [List.mem_cons, List.not_mem_nil, or_false] at hd
  rcases hd with rfl | rfl | rfl | rfl | rfl | rfl | rfl
  · unfold plainD; rfl
  · exact plain_lists _
  · exact plain_lists _
  · exact plain_ints _
  · exact plain_ints _
  · refine plain_tup fun d hd => ?_
    obtain ⟨sc, _, rfl⟩ := List.mem_map.mp hd
    refine plain_tup fun d hd => ?_
    obtain ⟨e, _, rfl⟩ := List.mem_map.mp hd
    refine plain_tup fun d hd => ?_
    rcases List.mem_cons.mp hd with h | hd
    · rw [h]
      exact plain_ws _
    · rw [List.mem_singleton.mp hd]
      exact plain_ws _
  · exact plain_ints _
theorem W_d_inj (a b : W) (h : a.d = b.d) : a = b := by
  cases a <;> cases b <;> simp [W.d] at h <;> rw [h]
theorem dInts_inj (a b : List Int) (h : dInts a = dInts b) : a = b := map_inj (fun x y e => PyData.int.inj e) (PyData.tuple.inj h)
theorem wsD_inj {a b : List W} (h : wsD a = wsD b) : a = b := map_inj W_d_inj (PyData.tuple.inj h)
theorem entD_inj (a b : Ent) (h : a.d = b.d) : a = b := by
  have h := PyData.tuple.inj h
  have h1 := wsD_inj (List.cons.inj h).1
  have h2 := wsD_inj (List.cons.inj (List.cons.inj h).2).1
  refine ent_inj ?_
  unfold Ent.w
  have e1 := (List.cons.inj h1).1
  have e2 := (List.cons.inj (List.cons.inj h1).2).1
  rw [e1, e2, h2]
theorem showD_inj {s t : Show} (h : s.d = t.d) : s = t := by
  obtain ⟨a, b, c, d, e, f, g⟩ := s
  obtain ⟨a', b', c', d', e', f', g'⟩ := t
  have h := PyData.tuple.inj h
  simp only [List.cons.injEq, and_true] at h
  obtain ⟨h1, h2, h3, h4, h5, h6, h7⟩ := h
  have e1 : a = a' := PyData.int.inj h1
  have e2 : b = b' := map_inj dInts_inj (PyData.tuple.inj h2)
  have e3 : c = c' := map_inj dInts_inj (PyData.tuple.inj h3)
  have e4 : d = d' := dInts_inj _ _ h4
  have e5 : e = e' := dInts_inj _ _ h5
  have e6 : f = f' := map_inj (fun x y z => map_inj entD_inj (PyData.tuple.inj z)) (PyData.tuple.inj h6)
  have e7 : g = g' := dInts_inj _ _ h7
  rw [e1, e2, e3, e4, e5, e6, e7]
theorem eqv_self {s : Show} (h : Valid s) : PyData.eqv s.d s.d = true := SeqAt.eqv_refl _ (fine_show h).lay
theorem eqv_text {s t : Show} (hs : Valid s) (ht : Valid t) : PyData.eqv s.d t.d = decide (showT s = showT t) := by
  by_cases e : showT s = showT t
  · rw [decide_eq_true e]
    obtain rfl := showT_inj hs ht e
    exact eqv_self hs
  · rw [decide_eq_false e]
    cases h : PyData.eqv s.d t.d
    · rfl
    · exact absurd (by rw [showD_inj (eqv_eq _ _ (plain_show s) (plain_show t) h)]) e
end K33
/-! The law. -/
namespace K33
open PySem PySem.Spec PyProof.Rows L2
theorem tabs_but {K : PySem.W.Frag} {T : List (Addr × Str)} {H H' : Hp} {d : Addr} {g : Addr × List Int} {n : Nat} (hD : Draw K H d g n) (b : But d H H') (t : LamX.Tabs T H) : LamX.Tabs T H' := by
  obtain ⟨a, l, u, e, _⟩ := hD
  intro p hp
  obtain ⟨ps, h1, h2, h3⟩ := t p hp
  refine ⟨ps, b _ _ (ne_of h1 e (by intro z; cases z)) h1, h2, fun pos cv hc => ?_⟩
  obtain ⟨c, e1, e2⟩ := h3 pos cv hc
  refine ⟨c, e1, b _ _ (ne_of e2 e ?_) e2⟩
  intro z
  unfold LamX.CodeO at z
  cases z
theorem Draw.ext {K : PySem.W.Frag} {H H' : Hp} {d : Addr} {g : Addr × List Int} {n : Nat} (h : Draw K H d g n) (x : LamX.ExtN H H') : Draw K H' d g n := by
  obtain ⟨a, l, u, e, hc, hn, hu⟩ := h
  exact ⟨a, l, u, x _ _ e (fun ps z => by cases z), (extN_fix x).seqL hc, hn, hu⟩
theorem kbinds {K : PySem.W.Frag} {x p : Str} {st : Stmt} {f : Addr} {fd : FuncData} (F : FunD K x x (defArgs st) (defBody st) (defScope st) [] [] f fd)
    (h1 : ∀ (kV doc pm : Value) (an : Option Addr) (cdv ct u : Value), bindArgs (PySem.W.fnOf x x (defArgs st) (defBody st) (defScope st) .none kV doc pm an cdv ct) ⟨[u], []⟩ = pure [(p, u)])
    (h2 : ∀ (kV doc pm : Value) (an : Option Addr) (cdv ct u : Value), bindArgs (PySem.W.fnOf x x (defArgs st) (defBody st) (defScope st) .none kV doc pm an cdv ct) ⟨[], [(p, u)]⟩ = pure [(p, u)]) :
    KBinds K fd [p] [p] (fun us ws => us ++ ws) (fun vs zs => vs ++ zs) := by
  obtain ⟨oc, od, dV, kV, doc, pm, an, cdv, ct, osl, rfl, lk, hcd, hD, hK⟩ := F.ex
  rcases hD with ⟨_, rfl⟩ | ⟨e, _⟩
  · refine ⟨fun s us ws _ hl => ?_, fun a b => a.append b⟩
    match us, ws, hl with
    | [u], [], _ => exact .of_eq (h1 kV doc pm an cdv ct u)
    | [], [u], _ => exact .of_eq (h2 kV doc pm an cdv ct u)
    | [], [], hl => cases hl
    | _ :: _ :: _, _, hl => simp at hl
    | _ :: _, _ :: _, hl => simp at hl
    | [], _ :: _ :: _, hl => simp at hl
  · exact absurd rfl e
abbrev N_law : List Str := ["_law_script", "_law_draw", "_law_turn", "_law_pult", "_law_other", "_law_wording", "_law_k", "_law_full", "_law_scene_here"]
theorem sc_law : FnScope N_law ["_law_script"] (defScope s_law) := ⟨rfl, rfl, rfl, by decide +kernel, rfl, by decide +kernel, by decide +kernel⟩
/-! ### the three shows written in the law -/
def full6 : List Ent := (List.range 6).map fun k => ⟨false, (k : Nat), .to (-1000000)⟩
def showF : Show := ⟨6, [[], [0, 5]], [[0, 1], [2, 7]], [0, 1, 2, 3, 4, 5, 6, 7], [0, 7], [full6, [], full6], [2, 0, 1]⟩
def show0 : Show := ⟨1, [], [], [], [], [], []⟩
def scene3 : List Ent := [⟨false, 0, .by_ (-3)⟩, ⟨true, 1, .as_ 0⟩, ⟨true, 2, .turn⟩]
def show2 : Show := ⟨2, [[0], []], [], [], [1], [scene3], [0]⟩
instance (ns : List Int) (m : Int) : Decidable (Rising ns m) := inferInstanceAs (Decidable ((∀ n ∈ ns, 0 ≤ n ∧ n < m) ∧ ns.Pairwise (· < ·)))
instance (a b : Ent) : Decidable (entLt a b) := inferInstanceAs (Decidable ((a.mute = false ∧ b.mute = true) ∨ (a.mute = b.mute ∧ a.line < b.line)))
instance (a b : List Int) : Decidable (gangLt a b) := inferInstanceAs (Decidable (a < b ∧ ∀ x ∈ b, x ∉ a))
instance (m : Bool) (l n : Int) : (d : Deed) → Decidable (DeedOk m l n d)
  | .kept => inferInstanceAs (Decidable True)
  | .turn => inferInstanceAs (Decidable (m = true))
  | .as_ k => inferInstanceAs (Decidable (0 ≤ k ∧ k < n ∧ k ≠ l))
  | .to x => inferInstanceAs (Decidable (if m = true then 0 ≤ x ∧ x ≤ 1 else -1000000 ≤ x ∧ x ≤ 1000000))
  | .by_ x => inferInstanceAs (Decidable (m = false ∧ -1000000 ≤ x ∧ x ≤ 1000000))
instance (n : Int) (e : Ent) : Decidable (EntOk n e) := inferInstanceAs (Decidable (0 ≤ e.line ∧ e.line < n ∧ DeedOk e.mute e.line n e.deed))
instance (n : Int) (sc : List Ent) : Decidable (SceneOk n sc) := inferInstanceAs (Decidable (sc.length ≤ 12 ∧ (∀ e ∈ sc, EntOk n e) ∧ sc.Pairwise entLt))
theorem valid_F : Valid showF := ⟨by decide +kernel, by decide +kernel, by decide +kernel, by decide +kernel, by decide +kernel, by decide +kernel, by decide +kernel, by decide +kernel, by decide +kernel, by decide +kernel, by decide +kernel, by decide +kernel, by decide +kernel, by decide +kernel, by decide +kernel⟩
theorem valid_0 : Valid show0 := ⟨by decide +kernel, by decide +kernel, by decide +kernel, by decide +kernel, by decide +kernel, by decide +kernel, by decide +kernel, by decide +kernel, by decide +kernel, by decide +kernel, by decide +kernel, by decide +kernel, by decide +kernel, by decide +kernel, by decide +kernel⟩
theorem valid_2 : Valid show2 := ⟨by decide +kernel, by decide +kernel, by decide +kernel, by decide +kernel, by decide +kernel, by decide +kernel, by decide +kernel, by decide +kernel, by decide +kernel, by decide +kernel, by decide +kernel, by decide +kernel, by decide +kernel, by decide +kernel, by decide +kernel⟩
theorem text_0 : showT show0 = "strips 1" := by decide +kernel
theorem text_2 : showT show2 = "strips 2\ngroup 0\ngroup\nsafes 1\nscene\nfader 0 by -3\nmute 1 as 0\nmute 2 turn\nlist 0" := by decide +kernel
end K33
/-! The law's body. -/
namespace K33
open PySem PySem.Spec PyProof.Rows L2
def spLaw (K : PySem.W.Frag) : Sp := fun vs H Q _ => ∃ (a : Addr) (ns : List Int), vs = [.ref a] ∧ SqL K H a (ns.map V.int) ∧ ns.length ≤ 900 ∧ LamX.Tabs (Ts K) H ∧ ∀ H', Q (.bl true) H'
theorem size6 : (6 : Nat) ≤ sizeLine := by decide
theorem pow18 : CPow 10 6 := ⟨by decide, by decide, by decide⟩
theorem ne_self {s : Show} (h : Valid s) : (!PyData.eqv s.d s.d) = false := by
  rw [eqv_self h]
  rfl
theorem ne_t0 : (!decide (V.str (showT show0) = V.str "strips 1")) = false := by
  rw [text_0, eqS]
  rfl
theorem eq_t2 : decide (V.str (showT show2) = V.str "strips 2\ngroup 0\ngroup\nsafes 1\nscene\nfader 0 by -3\nmute 1 as 0\nmute 2 turn\nlist 0") = true := by
  rw [text_2]
  exact eqS _
theorem sq2 {K : PySem.W.Frag} {H : Hp} {p : Addr} {x : V} {z y : Int} (e : z = y) : SqT K (upd H p (.tup [x, V.int z])) p [x, V.int y] := by
  subst e
  exact .of upd_same
theorem mk_tup {K : PySem.W.Frag} {H : Hp} {p : Addr} {xs : List V} {ds : List PyData} (np : H p = none) (d : DpAll K H xs ds) : Same H (upd H p (.tup xs)) ∧ Dp K (upd H p (.tup xs)) (.ref p) (.tuple ds) :=
  ⟨same_new np, .tup (.of upd_same) (DpAll.fix (same_fix (same_new np)) _ _ d)⟩
section
variable {P : Program} {w : World} {K : PySem.W.Frag} {mg : Str → Option Value} {base : Heap}
theorem law_body (T : Txt K mg) (TB : TBase base K mg) (f : Addr) (cdv : Value) (s : Shared) (H : Hp) (vs : List V) (Q : VK) (E : XK) (hr : Room 8 (callerA.deeper (envOfC "law" (defScope s_law) s.heap.objs.size f cdv))) (h : spLaw K vs H Q E) :
    ∃ t, PSs (cxOf C8.CX0 P w K mg base N_law "law" (defScope s_law) f cdv callerA [] s H E).nox (defBody s_law) t ∧ t { nx := fun _ H' => Q .non H', rt := Q } (L2.start N_law vs) H := by
  obtain ⟨a, ns, rfl, hS, hl, hT, q⟩ := h
  obtain ⟨fs, fds, Fs, hms, kps, FDs, bds⟩ := (calK_show_text (P := P) (w := w) (base := base) T TB).ex
  obtain ⟨fr, fdr, Fr, hmr, kpr, FDr, bdr⟩ := (calK_read_show (P := P) (w := w) (base := base) T TB).ex
  have kbs := kbinds (p := "show") FDs (fun _ _ _ _ _ _ _ => rfl) (fun _ _ _ _ _ _ _ => rfl)
  have kbr := kbinds (p := "text") FDr (fun _ _ _ _ _ _ _ => rfl) (fun _ _ _ _ _ _ _ => rfl)
  refine ⟨_, pss_cons (ps_set (i := 1) sc_law.nd rfl (Or.inl rfl) (C8.pe_c (cal_begin T) hr (by decide) (by rfl) (pa_cons (pv 0) pa_nil)))
    (pss_cons (ps_for PassesOwn.never rfl (pi_range1 (by rfl) T.m_range (pa_cons pe_int pa_nil)) (pg_name (i := 2) sc_law.nd rfl (.inl rfl))
      (pss_cons (ps_set (i := 3) sc_law.nd rfl (Or.inl rfl) (C8.pe_c (cal_lawShow T) hr (by decide) (by rfl) (pa_cons (pv 1) (pa_cons (pe_tup (pa_cons pe_int (pa_cons pe_int (pa_cons pe_int (pa_cons pe_int (pa_cons pe_int (pa_cons pe_int pa_nil))))))) pa_nil))))
      (pss_cons (ps_set (i := 4) sc_law.nd rfl (Or.inl rfl) (C8.pe_c (cal_lawShow T) hr (by decide) (by rfl) (pa_cons (pv 1) (pa_cons (pe_tup (pa_cons pe_int (pa_cons pe_int (pa_cons pe_int (pa_cons pe_int (pa_cons pe_int (pa_cons pe_int pa_nil))))))) pa_nil))))
      (pss_cons (ps_set (i := 5) sc_law.nd rfl (Or.inl rfl) (C8.pe_c (cal_lst T) hr (by decide) (by rfl) (pa_cons (pv 3) pa_nil)))
      (pss_cons (ps_if (PW.pt (pw_or (pt_cmpR op_ne (C8.pe_c (cal_show_text T TB) hr (by decide) (by rfl) (pa_cons (pv 3) pa_nil)) (pv 5) (nomark _)) (pw_or1 (pt_cmpR op_ne (pe_callK0 (E := C8.E0) Fs hr (by rfl) hms kps kbs C8.pass0 (pk_cons (pv 3) pk_nil)) (pv 5) (nomark _))))) pss_never pss_nil)
      (pss_cons (ps_if (pt_cmpR op_ne (pe_callB (cr_reprD rfl hr.units) (by rfl) T.m_repr bt_repr (pa_cons (C8.pe_c (cal_read_show T TB) hr (by decide) (by rfl) (pa_cons (pv 5) pa_nil)) pa_nil)) (pe_callB (cr_reprD rfl hr.units) (by rfl) T.m_repr bt_repr (pa_cons (pv 3) pa_nil)) (nomark _)) pss_never pss_nil)
      (pss_one (ps_if (PW.pt (pw_or (pt_cmpR (op_neD hr.units) (pe_callK0 (E := C8.E0) Fr hr (by rfl) hmr kpr kbr C8.pass0 (pk_cons (pv 5) pk_nil)) (pv 3) (nomark _))
        (pw_or1 (pt_cmpR op_ne (pe_cmpR op_eq (C8.pe_c (cal_show_text T TB) hr (by decide) (by rfl) (pa_cons (pv 4) pa_nil)) (pv 5) (nomark _)) (pe_cmpR (op_eqD hr.units) (pv 4) (pv 3) (nomark _)) (nomark _))))) pss_never pss_nil))))))))
    (pss_cons (ps_set (i := 7) sc_law.nd rfl (Or.inl rfl) (pe_tupleOf (by rfl) T.m_tuple (pe_lc (own := [("_law_k", 6)]) (g := gName 6) (tt := tYes) (te := tTup (tCons (tTup (tCons (tC (.str "fader")) (tCons (tOp (rI (fun _ j => 0 < j) fun i j => .int (i % j)) (tVar 6) (tC (.int 6))) tNil))) (tCons (tTup (tCons (tC (.str "to")) (tCons (tOp (rI0 fun i j => .int (i - j)) (tC (.int 0)) (tOp (rI CPow fun i j => .int (i ^ j.toNat)) (tC (.int 10)) (tC (.int 6)))) tNil))) tNil))) rfl sc_law.nd
        (pi_range1 (by rfl) T.m_range (pa_cons pe_int pa_nil)) (blkOk_by (N := N_law) (sc := defScope s_law) (by decide +kernel)) (fun _ _ _ _ _ => pg_name (i := 6) sc_law.nd rfl (.inl rfl)) (fun _ _ _ _ _ => pts_nil)
        (fun _ _ _ _ _ => pe_tup (pa_cons (pe_tup (pa_cons pe_str (pa_cons (pe_op op_mod (pv 6) pe_int) pa_nil))) (pa_cons (pe_tup (pa_cons pe_str (pa_cons (pe_op op_sub pe_int (pe_op op_pow pe_int pe_int)) pa_nil))) pa_nil))))))
    (pss_cons (ps_set (i := 3) sc_law.nd rfl (Or.inl rfl) (pe_tup (pa_cons pe_int (pa_cons (pe_tup (pa_cons (pe_tup pa_nil) (pa_cons (pe_tup (pa_cons pe_int (pa_cons pe_int pa_nil))) pa_nil))) (pa_cons (pe_tup (pa_cons (pe_tup (pa_cons pe_int (pa_cons pe_int pa_nil))) (pa_cons (pe_tup (pa_cons pe_int (pa_cons pe_int pa_nil))) pa_nil)))
        (pa_cons (pe_tupRg rfl (by rfl) T.m_tuple (prg_1 (by rfl) T.m_range pe_int)) (pa_cons (pe_tup (pa_cons pe_int (pa_cons pe_int pa_nil))) (pa_cons (pe_tup (pa_cons (pv 7) (pa_cons (pe_tup pa_nil) (pa_cons (pv 7) pa_nil)))) (pa_cons (pe_tup (pa_cons pe_int (pa_cons pe_int (pa_cons pe_int pa_nil)))) pa_nil)))))))))
    (pss_cons (ps_if (PW.pt (pw_or (pt_cmpR (op_neD hr.units) (C8.pe_c (cal_read_show T TB) hr (by decide) (by rfl) (pa_cons (C8.pe_c (cal_show_text T TB) hr (by decide) (by rfl) (pa_cons (pv 3) pa_nil)) pa_nil)) (pv 3) (nomark _))
        (pw_or1 (pt_cmpR op_ne (C8.pe_c (cal_show_text T TB) hr (by decide) (by rfl) (pa_cons (pe_tup (pa_cons pe_int (pa_cons (pe_tup pa_nil) (pa_cons (pe_tup pa_nil) (pa_cons (pe_tup pa_nil) (pa_cons (pe_tup pa_nil) (pa_cons (pe_tup pa_nil) (pa_cons (pe_tup pa_nil) pa_nil)))))))) pa_nil)) pe_str (nomark _))))) pss_never pss_nil)
    (pss_cons (ps_set (i := 8) sc_law.nd rfl (Or.inl rfl) (pe_tup (pa_cons (pe_tup (pa_cons (pe_tup (pa_cons pe_str (pa_cons pe_int pa_nil))) (pa_cons (pe_tup (pa_cons pe_str (pa_cons (pe_un un_neg pe_int) pa_nil))) pa_nil)))
        (pa_cons (pe_tup (pa_cons (pe_tup (pa_cons pe_str (pa_cons pe_int pa_nil))) (pa_cons (pe_tup (pa_cons pe_str (pa_cons pe_int pa_nil))) pa_nil))) (pa_cons (pe_tup (pa_cons (pe_tup (pa_cons pe_str (pa_cons pe_int pa_nil))) (pa_cons (pe_tup (pa_cons pe_str pa_nil)) pa_nil))) pa_nil)))))
    (pss_cons (ps_set (i := 3) sc_law.nd rfl (Or.inl rfl) (pe_tup (pa_cons pe_int (pa_cons (pe_tup (pa_cons (pe_tup (pa_cons pe_int pa_nil)) (pa_cons (pe_tup pa_nil) pa_nil))) (pa_cons (pe_tup pa_nil) (pa_cons (pe_tup pa_nil) (pa_cons (pe_tup (pa_cons pe_int pa_nil)) (pa_cons (pe_tup (pa_cons (pv 8) pa_nil)) (pa_cons (pe_tup (pa_cons pe_int pa_nil)) pa_nil)))))))))
    (pss_cons (ps_set (i := 5) sc_law.nd rfl (Or.inl rfl) pe_str)
    (pss_one (ps_ret (pe_and (pe_cmpR op_eq (C8.pe_c (cal_show_text T TB) hr (by decide) (by rfl) (pa_cons (pv 3) pa_nil)) (pv 5) (nomark _)) (pe_one (pe_cmpR (op_eqD hr.units) (C8.pe_c (cal_read_show T TB) hr (by decide) (by rfl) (pa_cons (pv 5) pa_nil)) (pv 3) (nomark _))))))))))))), ?_⟩
  refine ⟨_, rfl, a, ns, rfl, hS, hl, fun d g H1 s1 nd hD => ?_⟩
  have T1 := hT.ext s1
  refine ⟨8, rfl, by decide, by decide, ?_⟩
  refine for_range (fun i σ' H' => (∃ x2 x3 x4 x5, σ' = [some (.ref a), some (.ref d), x2, x3, x4, x5, none, none, none]) ∧ Draw K H' d g (600 * i) ∧ LamX.Tabs (Ts K) H') ⟨⟨none, none, none, none, rfl⟩, hD, T1⟩ ?_ ?_
  · rintro i σ' H2 hi ⟨⟨x2, x3, x4, x5, rfl⟩, D2, T2⟩
    have hi : i < 8 := hi
    refine ⟨_, rfl, size6, fun p1 np1 => ?_⟩
    have c1 := same_new (o := .tup (sizes.map V.int)) np1
    refine ⟨d, p1, g, 600 * i, rfl, D2.same c1, .of upd_same, by omega, fun S v H3 hV b3 D3 dv => ?_⟩
    have T3 := tabs_but (D2.same c1) b3 (T2.ext c1)
    obtain ⟨av, _, _, _, _, _, _, rfl, _⟩ := dp_show dv
    refine ⟨_, rfl, size6, fun p2 np2 => ?_⟩
    have c2 := same_new (o := .tup (sizes.map V.int)) np2
    refine ⟨d, p2, g, 600 * i + 300, rfl, D3.same c2, .of upd_same, by omega, fun S2 v2 H4 hV2 b4 D4 dv2 => ?_⟩
    have T4 := tabs_but (D3.same c2) b4 (T3.ext c2)
    have dv4 := Dp.fix ((same_fix c2).trans ((D3.same c2).fix b4)) _ _ dv
    refine ⟨_, rfl, .ref av, S, rfl, dv4, hV, fun H5 s5 => ?_⟩
    have D5 := D4.same s5
    have T5 := T4.ext s5
    have dv5 := Dp.fix (same_fix s5) _ _ dv4
    have dw5 := Dp.fix (same_fix s5) _ _ dv2
    have ne : (!decide (V.str (showT S) = V.str (showT S))) = false := by rw [eqS]; rfl
    refine ⟨_, rfl, .ref av, S, rfl, dv5, hV, T5, fun H6 x6 T6 => ⟨_, rfl, rfl, _, rfl, ifF ne ?_⟩⟩
    have dv6 := Dp.fix (extN_fix x6) _ _ dv5
    have dw6 := Dp.fix (extN_fix x6) _ _ dw5
    refine ⟨_, rfl, .ref av, S, rfl, dv6, hV, T6, fun H7 x7 T7 => ⟨_, rfl, rfl, _, rfl, ifF ne ?_⟩⟩
    have dv7 := Dp.fix (extN_fix x7) _ _ dv6
    have dw7 := Dp.fix (extN_fix x7) _ _ dw6
    refine ⟨_, rfl, S, rfl, hV, T7, fun v8 H8 x8 T8 dv8 => ?_⟩
    obtain ⟨a8, _, _, _, _, _, _, rfl, _⟩ := dp_show dv8
    have fS := fine_show hV
    have fS2 := fine_show hV2
    have nod := PyData.hasDict_of_canLay _ fS.lay
    have dv8' := Dp.fix (extN_fix x8) _ _ dv7
    have dw8 := Dp.fix (extN_fix x8) _ _ dw7
    have nes : (!decide (V.str S.d.shown = V.str S.d.shown)) = false := by
      rw [decide_eq_true rfl]
      rfl
    have ln : S.d.shown.length ≤ sizeLine := Nat.le_trans fS.len (by decide)
    refine ⟨a8, S.d, rfl, dv8, fS.shw, nod, Nat.le_trans fS.dep (by decide), ln, ?_⟩
    refine ⟨_, rfl, ?_⟩
    refine ⟨av, S.d, rfl, dv8', fS.shw, nod, Nat.le_trans fS.dep (by decide), ln, ?_⟩
    generalize S.d.shown = tx at nes ⊢
    refine ⟨rfl, ?_⟩
    refine ⟨_, rfl, ?_⟩
    refine ifF nes ?_
    refine ⟨_, rfl, S, rfl, hV, T8, fun v9 H9 x9 T9 dv9 => ?_⟩
    have dv9' := Dp.fix (extN_fix x9) _ _ dv8'
    have dw9 := Dp.fix (extN_fix x9) _ _ dw8
    refine ⟨_, rfl, S.d, S.d, dv9, dv9', fS.shaped (by decide), fS.shaped (by decide), _, rfl, ifF (ne_self hV) ?_⟩
    refine ⟨_, rfl, v2, S2, rfl, dw9, hV2, T9, fun H10 x10 T10 => ?_⟩
    refine ⟨_, rfl, rfl, _, rfl, _, rfl, S2.d, S.d, Dp.fix (extN_fix x10) _ _ dw9, Dp.fix (extN_fix x10) _ _ dv9', fS2.shaped (by decide), fS.shaped (by decide), rfl, _, rfl, ifF ?_ ?_⟩
    · rw [eqv_text hV2 hV]
      have e : decide (V.str (showT S2) = V.str (showT S)) = decide (showT S2 = showT S) := by
        by_cases h : showT S2 = showT S
        · rw [h, eqS, decide_eq_true rfl]
        · rw [neS h, decide_eq_false h]
      rw [e, decide_eq_true rfl]
      rfl
    · have D10 := ((((D5.ext x6).ext x7).ext x8).ext x9).ext x10
      exact ⟨⟨_, _, _, _, rfl⟩, D10.mono (by omega), T10⟩
  rintro σ' H2 ⟨⟨x2, x3, x4, x5, rfl⟩, _, T2⟩
  refine ⟨6, rfl, by decide, by decide, fun D nD => ?_⟩
  refine lc_data (K := K) (G := fun _ => True) (walk_rng 6) (full6.map Ent.d) (fun d hd => tupOnlyAll_iff.mp (tupOnly_ents _) d hd) (by rw [List.length_map]; rfl) nD (by decide) (fun _ _ => trivial) ?_ ?_
  · rintro i x dd H3 H4 hi ed s3 ⟨rfl, rfl⟩ Qe Qf qe
    have hdd : dd = Ent.d ⟨false, (i : Nat), .to (-1000000)⟩ := by
      rw [List.getElem?_map] at ed
      unfold full6 at ed
      rw [List.getElem?_map, List.getElem?_range hi] at ed
      exact (Option.some.inj ed).symm
    have hm : ((i : Nat) : Int) % 6 = (i : Nat) := by omega
    refine ⟨rfl, ⟨_, rfl, _, 6, rfl, rfl, (by show (0 : Int) < 6; decide), size2, fun p1 np1 => ?_⟩⟩
    have c1 := same_new (o := .tup [V.str "fader", V.int (((i : Nat) : Int) % 6)]) np1
    refine ⟨10, 6, rfl, rfl, pow18, _, _, rfl, rfl, size2, fun p2 np2 => ⟨size2, fun p3 np3 => ?_⟩⟩
    have c2 := same_new (o := .tup [V.str "to", V.int (0 - 10 ^ (6 : Int).toNat)]) np2
    have c3 := same_new (o := .tup [V.ref p1, V.ref p2]) np3
    refine qe _ _ ((c1.trans c2).trans c3) ?_
    rw [hdd]
    refine ent_dp (.of upd_same) ((same_fix (c2.trans c3)).seqT ?_) ((same_fix c3).seqT (.of upd_same))
    exact sq2 hm
  intro H3 acc s3 eD dacc
  refine .inl ⟨D, acc, rfl, .of eD, fun tf ntf => ?_⟩
  have c4 := same_new (o := .tup acc) ntf
  have df : Dp K (upd H3 tf (.tup acc)) (.ref tf) (scD full6) := .tup (.of upd_same) (DpAll.fix (same_fix c4) _ _ dacc)
  have T3 := T2.ext (s3.trans c4)
  generalize upd H3 tf (.tup acc) = A0 at df T3 ⊢
  clear c4 s3 eD dacc T2 T1 hS hT nD ntf
  refine ⟨size0, fun m0 nm0 => ?_⟩
  obtain ⟨sq, dm0⟩ := mk_tup (xs := []) (ds := []) nm0 (.nil)
  have df := Dp.fix (same_fix sq) _ _ df
  have T3 := T3.ext sq
  generalize upd A0 m0 (.tup []) = A1 at dm0 T3 df ⊢
  clear sq
  refine ⟨size2, fun m1 nm1 => ?_⟩
  obtain ⟨sq, dm1⟩ := mk_tup (xs := [V.int 0, V.int 5]) (ds := [.int 0, .int 5]) nm1 (.cons (.int 0) (.cons (.int 5) (.nil)))
  have df := Dp.fix (same_fix sq) _ _ df
  have dm0 := Dp.fix (same_fix sq) _ _ dm0
  have T3 := T3.ext sq
  generalize upd A1 m1 (.tup [V.int 0, V.int 5]) = A2 at dm1 T3 df dm0 ⊢
  clear sq
  refine ⟨size2, fun mm nmm => ?_⟩
  obtain ⟨sq, dmm⟩ := mk_tup (xs := [V.ref m0, V.ref m1]) (ds := [dInts [], dInts [0, 5]]) nmm (.cons dm0 (.cons dm1 .nil))
  have df := Dp.fix (same_fix sq) _ _ df
  have dm0 := Dp.fix (same_fix sq) _ _ dm0
  have dm1 := Dp.fix (same_fix sq) _ _ dm1
  have T3 := T3.ext sq
  generalize upd A2 mm (.tup [V.ref m0, V.ref m1]) = A3 at dmm T3 df dm0 dm1 ⊢
  clear sq
  refine ⟨size2, fun g0 ng0 => ?_⟩
  obtain ⟨sq, dg0⟩ := mk_tup (xs := [V.int 0, V.int 1]) (ds := [.int 0, .int 1]) ng0 (.cons (.int 0) (.cons (.int 1) (.nil)))
  have df := Dp.fix (same_fix sq) _ _ df
  have dm0 := Dp.fix (same_fix sq) _ _ dm0
  have dm1 := Dp.fix (same_fix sq) _ _ dm1
  have dmm := Dp.fix (same_fix sq) _ _ dmm
  have T3 := T3.ext sq
  generalize upd A3 g0 (.tup [V.int 0, V.int 1]) = A4 at dg0 T3 df dm0 dm1 dmm ⊢
  clear sq
  refine ⟨size2, fun g1 ng1 => ?_⟩
  obtain ⟨sq, dg1⟩ := mk_tup (xs := [V.int 2, V.int 7]) (ds := [.int 2, .int 7]) ng1 (.cons (.int 2) (.cons (.int 7) (.nil)))
  have df := Dp.fix (same_fix sq) _ _ df
  have dm0 := Dp.fix (same_fix sq) _ _ dm0
  have dm1 := Dp.fix (same_fix sq) _ _ dm1
  have dmm := Dp.fix (same_fix sq) _ _ dmm
  have dg0 := Dp.fix (same_fix sq) _ _ dg0
  have T3 := T3.ext sq
  generalize upd A4 g1 (.tup [V.int 2, V.int 7]) = A5 at dg1 T3 df dm0 dm1 dmm dg0 ⊢
  clear sq
  refine ⟨size2, fun gg ngg => ?_⟩
  obtain ⟨sq, dgg⟩ := mk_tup (xs := [V.ref g0, V.ref g1]) (ds := [dInts [0, 1], dInts [2, 7]]) ngg (.cons dg0 (.cons dg1 .nil))
  have df := Dp.fix (same_fix sq) _ _ df
  have dm0 := Dp.fix (same_fix sq) _ _ dm0
  have dm1 := Dp.fix (same_fix sq) _ _ dm1
  have dmm := Dp.fix (same_fix sq) _ _ dmm
  have dg0 := Dp.fix (same_fix sq) _ _ dg0
  have dg1 := Dp.fix (same_fix sq) _ _ dg1
  have T3 := T3.ext sq
  generalize upd A5 gg (.tup [V.ref g0, V.ref g1]) = A6 at dgg T3 df dm0 dm1 dmm dg0 dg1 ⊢
  clear sq
  refine ⟨8, rfl, RgOk.of_le (by decide) (by decide) (by decide) (by decide), fun hh nhh => ?_⟩
  obtain ⟨sq, dhh⟩ := mk_tup (xs := rgV 0 8) (ds := ([0, 1, 2, 3, 4, 5, 6, 7] : List Int).map PyData.int) nhh (ints_dpAll [0, 1, 2, 3, 4, 5, 6, 7])
  have df := Dp.fix (same_fix sq) _ _ df
  have dm0 := Dp.fix (same_fix sq) _ _ dm0
  have dm1 := Dp.fix (same_fix sq) _ _ dm1
  have dmm := Dp.fix (same_fix sq) _ _ dmm
  have dg0 := Dp.fix (same_fix sq) _ _ dg0
  have dg1 := Dp.fix (same_fix sq) _ _ dg1
  have dgg := Dp.fix (same_fix sq) _ _ dgg
  have T3 := T3.ext sq
  generalize upd A6 hh (.tup (rgV 0 8)) = A7 at dhh T3 df dm0 dm1 dmm dg0 dg1 dgg ⊢
  clear sq
  refine ⟨size2, fun ss nss => ?_⟩
  obtain ⟨sq, dss⟩ := mk_tup (xs := [V.int 0, V.int 7]) (ds := [.int 0, .int 7]) nss (.cons (.int 0) (.cons (.int 7) (.nil)))
  have df := Dp.fix (same_fix sq) _ _ df
  have dm0 := Dp.fix (same_fix sq) _ _ dm0
  have dm1 := Dp.fix (same_fix sq) _ _ dm1
  have dmm := Dp.fix (same_fix sq) _ _ dmm
  have dg0 := Dp.fix (same_fix sq) _ _ dg0
  have dg1 := Dp.fix (same_fix sq) _ _ dg1
  have dgg := Dp.fix (same_fix sq) _ _ dgg
  have dhh := Dp.fix (same_fix sq) _ _ dhh
  have T3 := T3.ext sq
  generalize upd A7 ss (.tup [V.int 0, V.int 7]) = A8 at dss T3 df dm0 dm1 dmm dg0 dg1 dgg dhh ⊢
  clear sq
  refine ⟨_, rfl, size0, fun e0 ne0 => ?_⟩
  obtain ⟨sq, de0⟩ := mk_tup (xs := []) (ds := []) ne0 (.nil)
  have df := Dp.fix (same_fix sq) _ _ df
  have dm0 := Dp.fix (same_fix sq) _ _ dm0
  have dm1 := Dp.fix (same_fix sq) _ _ dm1
  have dmm := Dp.fix (same_fix sq) _ _ dmm
  have dg0 := Dp.fix (same_fix sq) _ _ dg0
  have dg1 := Dp.fix (same_fix sq) _ _ dg1
  have dgg := Dp.fix (same_fix sq) _ _ dgg
  have dhh := Dp.fix (same_fix sq) _ _ dhh
  have dss := Dp.fix (same_fix sq) _ _ dss
  have T3 := T3.ext sq
  generalize upd A8 e0 (.tup []) = A9 at de0 T3 df dm0 dm1 dmm dg0 dg1 dgg dhh dss ⊢
  clear sq
  refine ⟨_, rfl, size3, fun cc ncc => ?_⟩
  obtain ⟨sq, dcc⟩ := mk_tup (xs := [V.ref tf, V.ref e0, V.ref tf]) (ds := [scD full6, scD [], scD full6]) ncc (.cons df (.cons de0 (.cons df .nil)))
  have df := Dp.fix (same_fix sq) _ _ df
  have dm0 := Dp.fix (same_fix sq) _ _ dm0
  have dm1 := Dp.fix (same_fix sq) _ _ dm1
  have dmm := Dp.fix (same_fix sq) _ _ dmm
  have dg0 := Dp.fix (same_fix sq) _ _ dg0
  have dg1 := Dp.fix (same_fix sq) _ _ dg1
  have dgg := Dp.fix (same_fix sq) _ _ dgg
  have dhh := Dp.fix (same_fix sq) _ _ dhh
  have dss := Dp.fix (same_fix sq) _ _ dss
  have de0 := Dp.fix (same_fix sq) _ _ de0
  have T3 := T3.ext sq
  generalize upd A9 cc (.tup [V.ref tf, V.ref e0, V.ref tf]) = A10 at dcc T3 df dm0 dm1 dmm dg0 dg1 dgg dhh dss de0 ⊢
  clear sq
  refine ⟨size3, fun oo noo => ?_⟩
  obtain ⟨sq, doo⟩ := mk_tup (xs := [V.int 2, V.int 0, V.int 1]) (ds := [.int 2, .int 0, .int 1]) noo (.cons (.int 2) (.cons (.int 0) (.cons (.int 1) (.nil))))
  have df := Dp.fix (same_fix sq) _ _ df
  have dm0 := Dp.fix (same_fix sq) _ _ dm0
  have dm1 := Dp.fix (same_fix sq) _ _ dm1
  have dmm := Dp.fix (same_fix sq) _ _ dmm
  have dg0 := Dp.fix (same_fix sq) _ _ dg0
  have dg1 := Dp.fix (same_fix sq) _ _ dg1
  have dgg := Dp.fix (same_fix sq) _ _ dgg
  have dhh := Dp.fix (same_fix sq) _ _ dhh
  have dss := Dp.fix (same_fix sq) _ _ dss
  have de0 := Dp.fix (same_fix sq) _ _ de0
  have dcc := Dp.fix (same_fix sq) _ _ dcc
  have T3 := T3.ext sq
  generalize upd A10 oo (.tup [V.int 2, V.int 0, V.int 1]) = A11 at doo T3 df dm0 dm1 dmm dg0 dg1 dgg dhh dss de0 dcc ⊢
  clear sq
  refine ⟨size7, fun tt ntt => ?_⟩
  obtain ⟨sq, dtt⟩ := mk_tup (xs := [V.int 6, V.ref mm, V.ref gg, V.ref hh, V.ref ss, V.ref cc, V.ref oo]) (ds := [.int 6, .tuple ([[], [0, 5]].map dInts), .tuple ([[0, 1], [2, 7]].map dInts), dInts [0, 1, 2, 3, 4, 5, 6, 7], dInts [0, 7], .tuple ([full6, [], full6].map scD), dInts [2, 0, 1]]) ntt (.cons (.int 6) (.cons dmm (.cons dgg (.cons dhh (.cons dss (.cons dcc (.cons doo .nil)))))))
  have df := Dp.fix (same_fix sq) _ _ df
  have dm0 := Dp.fix (same_fix sq) _ _ dm0
  have dm1 := Dp.fix (same_fix sq) _ _ dm1
  have dmm := Dp.fix (same_fix sq) _ _ dmm
  have dg0 := Dp.fix (same_fix sq) _ _ dg0
  have dg1 := Dp.fix (same_fix sq) _ _ dg1
  have dgg := Dp.fix (same_fix sq) _ _ dgg
  have dhh := Dp.fix (same_fix sq) _ _ dhh
  have dss := Dp.fix (same_fix sq) _ _ dss
  have de0 := Dp.fix (same_fix sq) _ _ de0
  have dcc := Dp.fix (same_fix sq) _ _ dcc
  have doo := Dp.fix (same_fix sq) _ _ doo
  have T3 := T3.ext sq
  generalize upd A11 tt (.tup [V.int 6, V.ref mm, V.ref gg, V.ref hh, V.ref ss, V.ref cc, V.ref oo]) = A12 at dtt T3 df dm0 dm1 dmm dg0 dg1 dgg dhh dss de0 dcc doo ⊢
  clear sq
  have dtt : Dp K A12 (.ref tt) showF.d := dtt
  clear df dm0 dm1 dmm dg0 dg1 dgg dhh dss de0 dcc doo
  refine ⟨_, rfl, .ref tt, showF, rfl, dtt, valid_F, T3, fun B1 y1 U1 => ?_⟩
  refine ⟨showF, rfl, valid_F, U1, fun v2 B2 y2 U2 dv2 => ?_⟩
  have fF := fine_show valid_F
  refine ⟨_, rfl, showF.d, showF.d, dv2, Dp.fix ((extN_fix y1).trans (extN_fix y2)) _ _ dtt, fF.shaped (by decide), fF.shaped (by decide), _, rfl, ifF (ne_self valid_F) ?_⟩
  have T3 := U2
  generalize B2 = C0 at T3
  clear U2 U1 y1 y2 dtt dv2 fF
  refine ⟨size0, fun q0 nq0 => ?_⟩
  obtain ⟨sq, dq0⟩ := mk_tup (xs := []) (ds := []) nq0 (.nil)
  have T3 := T3.ext sq
  generalize upd C0 q0 (.tup []) = C1 at dq0 T3 ⊢
  clear sq
  refine ⟨size0, fun q1 nq1 => ?_⟩
  obtain ⟨sq, dq1⟩ := mk_tup (xs := []) (ds := []) nq1 (.nil)
  have dq0 := Dp.fix (same_fix sq) _ _ dq0
  have T3 := T3.ext sq
  generalize upd C1 q1 (.tup []) = C2 at dq1 T3 dq0 ⊢
  clear sq
  refine ⟨size0, fun q2 nq2 => ?_⟩
  obtain ⟨sq, dq2⟩ := mk_tup (xs := []) (ds := []) nq2 (.nil)
  have dq0 := Dp.fix (same_fix sq) _ _ dq0
  have dq1 := Dp.fix (same_fix sq) _ _ dq1
  have T3 := T3.ext sq
  generalize upd C2 q2 (.tup []) = C3 at dq2 T3 dq0 dq1 ⊢
  clear sq
  refine ⟨size0, fun q3 nq3 => ?_⟩
  obtain ⟨sq, dq3⟩ := mk_tup (xs := []) (ds := []) nq3 (.nil)
  have dq0 := Dp.fix (same_fix sq) _ _ dq0
  have dq1 := Dp.fix (same_fix sq) _ _ dq1
  have dq2 := Dp.fix (same_fix sq) _ _ dq2
  have T3 := T3.ext sq
  generalize upd C3 q3 (.tup []) = C4 at dq3 T3 dq0 dq1 dq2 ⊢
  clear sq
  refine ⟨size0, fun q4 nq4 => ?_⟩
  obtain ⟨sq, dq4⟩ := mk_tup (xs := []) (ds := []) nq4 (.nil)
  have dq0 := Dp.fix (same_fix sq) _ _ dq0
  have dq1 := Dp.fix (same_fix sq) _ _ dq1
  have dq2 := Dp.fix (same_fix sq) _ _ dq2
  have dq3 := Dp.fix (same_fix sq) _ _ dq3
  have T3 := T3.ext sq
  generalize upd C4 q4 (.tup []) = C5 at dq4 T3 dq0 dq1 dq2 dq3 ⊢
  clear sq
  refine ⟨size0, fun q5 nq5 => ?_⟩
  obtain ⟨sq, dq5⟩ := mk_tup (xs := []) (ds := []) nq5 (.nil)
  have dq0 := Dp.fix (same_fix sq) _ _ dq0
  have dq1 := Dp.fix (same_fix sq) _ _ dq1
  have dq2 := Dp.fix (same_fix sq) _ _ dq2
  have dq3 := Dp.fix (same_fix sq) _ _ dq3
  have dq4 := Dp.fix (same_fix sq) _ _ dq4
  have T3 := T3.ext sq
  generalize upd C5 q5 (.tup []) = C6 at dq5 T3 dq0 dq1 dq2 dq3 dq4 ⊢
  clear sq
  refine ⟨size7, fun z0 nz0 => ?_⟩
  obtain ⟨sq, dz0⟩ := mk_tup (xs := [V.int 1, V.ref q0, V.ref q1, V.ref q2, V.ref q3, V.ref q4, V.ref q5]) (ds := [.int 1, .tuple [], .tuple [], .tuple [], .tuple [], .tuple [], .tuple []]) nz0 (.cons (.int 1) (.cons dq0 (.cons dq1 (.cons dq2 (.cons dq3 (.cons dq4 (.cons dq5 .nil)))))))
  have dq0 := Dp.fix (same_fix sq) _ _ dq0
  have dq1 := Dp.fix (same_fix sq) _ _ dq1
  have dq2 := Dp.fix (same_fix sq) _ _ dq2
  have dq3 := Dp.fix (same_fix sq) _ _ dq3
  have dq4 := Dp.fix (same_fix sq) _ _ dq4
  have dq5 := Dp.fix (same_fix sq) _ _ dq5
  have T3 := T3.ext sq
  generalize upd C6 z0 (.tup [V.int 1, V.ref q0, V.ref q1, V.ref q2, V.ref q3, V.ref q4, V.ref q5]) = C7 at dz0 T3 dq0 dq1 dq2 dq3 dq4 dq5 ⊢
  clear sq
  have dz0 : Dp K C7 (.ref z0) show0.d := dz0
  refine ⟨.ref z0, show0, rfl, dz0, valid_0, T3, fun B3 y3 U3 => ⟨rfl, _, rfl, ifF ne_t0 ?_⟩⟩
  have T3 := U3
  generalize B3 = E0 at T3
  clear U3 y3 dz0 dq0 dq1 dq2 dq3 dq4 dq5
  refine ⟨size2, fun a0 na0 => ?_⟩
  obtain ⟨sq, da0⟩ := mk_tup (xs := [V.str "fader", V.int 0]) (ds := ([.s "fader", .i 0] : List W).map W.d) na0 (ws_dpAll [.s "fader", .i 0])
  have T3 := T3.ext sq
  generalize upd E0 a0 (.tup [V.str "fader", V.int 0]) = E1 at da0 T3 ⊢
  clear sq
  refine ⟨3, rfl, size2, fun a1 na1 => ?_⟩
  obtain ⟨sq, da1⟩ := mk_tup (xs := [V.str "by", V.int (-3)]) (ds := ([.s "by", .i (-3)] : List W).map W.d) na1 (ws_dpAll [.s "by", .i (-3)])
  have da0 := Dp.fix (same_fix sq) _ _ da0
  have T3 := T3.ext sq
  generalize upd E1 a1 (.tup [V.str "by", V.int (-3)]) = E2 at da1 T3 da0 ⊢
  clear sq
  refine ⟨size2, fun a2 na2 => ?_⟩
  obtain ⟨sq, da2⟩ := mk_tup (xs := [V.ref a0, V.ref a1]) (ds := [wsD [.s "fader", .i 0], wsD [.s "by", .i (-3)]]) na2 (.cons da0 (.cons da1 .nil))
  have da0 := Dp.fix (same_fix sq) _ _ da0
  have da1 := Dp.fix (same_fix sq) _ _ da1
  have T3 := T3.ext sq
  generalize upd E2 a2 (.tup [V.ref a0, V.ref a1]) = E3 at da2 T3 da0 da1 ⊢
  clear sq
  refine ⟨size2, fun b0 nb0 => ?_⟩
  obtain ⟨sq, db0⟩ := mk_tup (xs := [V.str "mute", V.int 1]) (ds := ([.s "mute", .i 1] : List W).map W.d) nb0 (ws_dpAll [.s "mute", .i 1])
  have da0 := Dp.fix (same_fix sq) _ _ da0
  have da1 := Dp.fix (same_fix sq) _ _ da1
  have da2 := Dp.fix (same_fix sq) _ _ da2
  have T3 := T3.ext sq
  generalize upd E3 b0 (.tup [V.str "mute", V.int 1]) = E4 at db0 T3 da0 da1 da2 ⊢
  clear sq
  refine ⟨size2, fun b1 nb1 => ?_⟩
  obtain ⟨sq, db1⟩ := mk_tup (xs := [V.str "as", V.int 0]) (ds := ([.s "as", .i 0] : List W).map W.d) nb1 (ws_dpAll [.s "as", .i 0])
  have da0 := Dp.fix (same_fix sq) _ _ da0
  have da1 := Dp.fix (same_fix sq) _ _ da1
  have da2 := Dp.fix (same_fix sq) _ _ da2
  have db0 := Dp.fix (same_fix sq) _ _ db0
  have T3 := T3.ext sq
  generalize upd E4 b1 (.tup [V.str "as", V.int 0]) = E5 at db1 T3 da0 da1 da2 db0 ⊢
  clear sq
  refine ⟨size2, fun b2 nb2 => ?_⟩
  obtain ⟨sq, db2⟩ := mk_tup (xs := [V.ref b0, V.ref b1]) (ds := [wsD [.s "mute", .i 1], wsD [.s "as", .i 0]]) nb2 (.cons db0 (.cons db1 .nil))
  have da0 := Dp.fix (same_fix sq) _ _ da0
  have da1 := Dp.fix (same_fix sq) _ _ da1
  have da2 := Dp.fix (same_fix sq) _ _ da2
  have db0 := Dp.fix (same_fix sq) _ _ db0
  have db1 := Dp.fix (same_fix sq) _ _ db1
  have T3 := T3.ext sq
  generalize upd E5 b2 (.tup [V.ref b0, V.ref b1]) = E6 at db2 T3 da0 da1 da2 db0 db1 ⊢
  clear sq
  refine ⟨size2, fun c0 nc0 => ?_⟩
  obtain ⟨sq, dc0⟩ := mk_tup (xs := [V.str "mute", V.int 2]) (ds := ([.s "mute", .i 2] : List W).map W.d) nc0 (ws_dpAll [.s "mute", .i 2])
  have da0 := Dp.fix (same_fix sq) _ _ da0
  have da1 := Dp.fix (same_fix sq) _ _ da1
  have da2 := Dp.fix (same_fix sq) _ _ da2
  have db0 := Dp.fix (same_fix sq) _ _ db0
  have db1 := Dp.fix (same_fix sq) _ _ db1
  have db2 := Dp.fix (same_fix sq) _ _ db2
  have T3 := T3.ext sq
  generalize upd E6 c0 (.tup [V.str "mute", V.int 2]) = E7 at dc0 T3 da0 da1 da2 db0 db1 db2 ⊢
  clear sq
  refine ⟨size1, fun c1 nc1 => ?_⟩
  obtain ⟨sq, dc1⟩ := mk_tup (xs := [V.str "turn"]) (ds := ([.s "turn"] : List W).map W.d) nc1 (ws_dpAll [.s "turn"])
  have da0 := Dp.fix (same_fix sq) _ _ da0
  have da1 := Dp.fix (same_fix sq) _ _ da1
  have da2 := Dp.fix (same_fix sq) _ _ da2
  have db0 := Dp.fix (same_fix sq) _ _ db0
  have db1 := Dp.fix (same_fix sq) _ _ db1
  have db2 := Dp.fix (same_fix sq) _ _ db2
  have dc0 := Dp.fix (same_fix sq) _ _ dc0
  have T3 := T3.ext sq
  generalize upd E7 c1 (.tup [V.str "turn"]) = E8 at dc1 T3 da0 da1 da2 db0 db1 db2 dc0 ⊢
  clear sq
  refine ⟨size2, fun c2 nc2 => ?_⟩
  obtain ⟨sq, dc2⟩ := mk_tup (xs := [V.ref c0, V.ref c1]) (ds := [wsD [.s "mute", .i 2], wsD [.s "turn"]]) nc2 (.cons dc0 (.cons dc1 .nil))
  have da0 := Dp.fix (same_fix sq) _ _ da0
  have da1 := Dp.fix (same_fix sq) _ _ da1
  have da2 := Dp.fix (same_fix sq) _ _ da2
  have db0 := Dp.fix (same_fix sq) _ _ db0
  have db1 := Dp.fix (same_fix sq) _ _ db1
  have db2 := Dp.fix (same_fix sq) _ _ db2
  have dc0 := Dp.fix (same_fix sq) _ _ dc0
  have dc1 := Dp.fix (same_fix sq) _ _ dc1
  have T3 := T3.ext sq
  generalize upd E8 c2 (.tup [V.ref c0, V.ref c1]) = E9 at dc2 T3 da0 da1 da2 db0 db1 db2 dc0 dc1 ⊢
  clear sq
  refine ⟨size3, fun sc nsc => ?_⟩
  obtain ⟨sq, dsc⟩ := mk_tup (xs := [V.ref a2, V.ref b2, V.ref c2]) (ds := scene3.map Ent.d) nsc (.cons da2 (.cons db2 (.cons dc2 .nil)))
  have da0 := Dp.fix (same_fix sq) _ _ da0
  have da1 := Dp.fix (same_fix sq) _ _ da1
  have da2 := Dp.fix (same_fix sq) _ _ da2
  have db0 := Dp.fix (same_fix sq) _ _ db0
  have db1 := Dp.fix (same_fix sq) _ _ db1
  have db2 := Dp.fix (same_fix sq) _ _ db2
  have dc0 := Dp.fix (same_fix sq) _ _ dc0
  have dc1 := Dp.fix (same_fix sq) _ _ dc1
  have dc2 := Dp.fix (same_fix sq) _ _ dc2
  have T3 := T3.ext sq
  generalize upd E9 sc (.tup [V.ref a2, V.ref b2, V.ref c2]) = E10 at dsc T3 da0 da1 da2 db0 db1 db2 dc0 dc1 dc2 ⊢
  clear sq
  refine ⟨size1, fun m0 nm0 => ?_⟩
  obtain ⟨sq, dm0⟩ := mk_tup (xs := [V.int 0]) (ds := [.int 0]) nm0 (.cons (.int 0) (.nil))
  have da0 := Dp.fix (same_fix sq) _ _ da0
  have da1 := Dp.fix (same_fix sq) _ _ da1
  have da2 := Dp.fix (same_fix sq) _ _ da2
  have db0 := Dp.fix (same_fix sq) _ _ db0
  have db1 := Dp.fix (same_fix sq) _ _ db1
  have db2 := Dp.fix (same_fix sq) _ _ db2
  have dc0 := Dp.fix (same_fix sq) _ _ dc0
  have dc1 := Dp.fix (same_fix sq) _ _ dc1
  have dc2 := Dp.fix (same_fix sq) _ _ dc2
  have dsc := Dp.fix (same_fix sq) _ _ dsc
  have T3 := T3.ext sq
  generalize upd E10 m0 (.tup [V.int 0]) = E11 at dm0 T3 da0 da1 da2 db0 db1 db2 dc0 dc1 dc2 dsc ⊢
  clear sq
  refine ⟨size0, fun m1 nm1 => ?_⟩
  obtain ⟨sq, dm1⟩ := mk_tup (xs := []) (ds := []) nm1 (.nil)
  have da0 := Dp.fix (same_fix sq) _ _ da0
  have da1 := Dp.fix (same_fix sq) _ _ da1
  have da2 := Dp.fix (same_fix sq) _ _ da2
  have db0 := Dp.fix (same_fix sq) _ _ db0
  have db1 := Dp.fix (same_fix sq) _ _ db1
  have db2 := Dp.fix (same_fix sq) _ _ db2
  have dc0 := Dp.fix (same_fix sq) _ _ dc0
  have dc1 := Dp.fix (same_fix sq) _ _ dc1
  have dc2 := Dp.fix (same_fix sq) _ _ dc2
  have dsc := Dp.fix (same_fix sq) _ _ dsc
  have dm0 := Dp.fix (same_fix sq) _ _ dm0
  have T3 := T3.ext sq
  generalize upd E11 m1 (.tup []) = E12 at dm1 T3 da0 da1 da2 db0 db1 db2 dc0 dc1 dc2 dsc dm0 ⊢
  clear sq
  refine ⟨size2, fun mm nmm => ?_⟩
  obtain ⟨sq, dmm⟩ := mk_tup (xs := [V.ref m0, V.ref m1]) (ds := [dInts [0], dInts []]) nmm (.cons dm0 (.cons dm1 .nil))
  have da0 := Dp.fix (same_fix sq) _ _ da0
  have da1 := Dp.fix (same_fix sq) _ _ da1
  have da2 := Dp.fix (same_fix sq) _ _ da2
  have db0 := Dp.fix (same_fix sq) _ _ db0
  have db1 := Dp.fix (same_fix sq) _ _ db1
  have db2 := Dp.fix (same_fix sq) _ _ db2
  have dc0 := Dp.fix (same_fix sq) _ _ dc0
  have dc1 := Dp.fix (same_fix sq) _ _ dc1
  have dc2 := Dp.fix (same_fix sq) _ _ dc2
  have dsc := Dp.fix (same_fix sq) _ _ dsc
  have dm0 := Dp.fix (same_fix sq) _ _ dm0
  have dm1 := Dp.fix (same_fix sq) _ _ dm1
  have T3 := T3.ext sq
  generalize upd E12 mm (.tup [V.ref m0, V.ref m1]) = E13 at dmm T3 da0 da1 da2 db0 db1 db2 dc0 dc1 dc2 dsc dm0 dm1 ⊢
  clear sq
  refine ⟨size0, fun gg ngg => ?_⟩
  obtain ⟨sq, dgg⟩ := mk_tup (xs := []) (ds := []) ngg (.nil)
  have da0 := Dp.fix (same_fix sq) _ _ da0
  have da1 := Dp.fix (same_fix sq) _ _ da1
  have da2 := Dp.fix (same_fix sq) _ _ da2
  have db0 := Dp.fix (same_fix sq) _ _ db0
  have db1 := Dp.fix (same_fix sq) _ _ db1
  have db2 := Dp.fix (same_fix sq) _ _ db2
  have dc0 := Dp.fix (same_fix sq) _ _ dc0
  have dc1 := Dp.fix (same_fix sq) _ _ dc1
  have dc2 := Dp.fix (same_fix sq) _ _ dc2
  have dsc := Dp.fix (same_fix sq) _ _ dsc
  have dm0 := Dp.fix (same_fix sq) _ _ dm0
  have dm1 := Dp.fix (same_fix sq) _ _ dm1
  have dmm := Dp.fix (same_fix sq) _ _ dmm
  have T3 := T3.ext sq
  generalize upd E13 gg (.tup []) = E14 at dgg T3 da0 da1 da2 db0 db1 db2 dc0 dc1 dc2 dsc dm0 dm1 dmm ⊢
  clear sq
  refine ⟨size0, fun hh nhh => ?_⟩
  obtain ⟨sq, dhh⟩ := mk_tup (xs := []) (ds := []) nhh (.nil)
  have da0 := Dp.fix (same_fix sq) _ _ da0
  have da1 := Dp.fix (same_fix sq) _ _ da1
  have da2 := Dp.fix (same_fix sq) _ _ da2
  have db0 := Dp.fix (same_fix sq) _ _ db0
  have db1 := Dp.fix (same_fix sq) _ _ db1
  have db2 := Dp.fix (same_fix sq) _ _ db2
  have dc0 := Dp.fix (same_fix sq) _ _ dc0
  have dc1 := Dp.fix (same_fix sq) _ _ dc1
  have dc2 := Dp.fix (same_fix sq) _ _ dc2
  have dsc := Dp.fix (same_fix sq) _ _ dsc
  have dm0 := Dp.fix (same_fix sq) _ _ dm0
  have dm1 := Dp.fix (same_fix sq) _ _ dm1
  have dmm := Dp.fix (same_fix sq) _ _ dmm
  have dgg := Dp.fix (same_fix sq) _ _ dgg
  have T3 := T3.ext sq
  generalize upd E14 hh (.tup []) = E15 at dhh T3 da0 da1 da2 db0 db1 db2 dc0 dc1 dc2 dsc dm0 dm1 dmm dgg ⊢
  clear sq
  refine ⟨size1, fun ss nss => ?_⟩
  obtain ⟨sq, dss⟩ := mk_tup (xs := [V.int 1]) (ds := [.int 1]) nss (.cons (.int 1) (.nil))
  have da0 := Dp.fix (same_fix sq) _ _ da0
  have da1 := Dp.fix (same_fix sq) _ _ da1
  have da2 := Dp.fix (same_fix sq) _ _ da2
  have db0 := Dp.fix (same_fix sq) _ _ db0
  have db1 := Dp.fix (same_fix sq) _ _ db1
  have db2 := Dp.fix (same_fix sq) _ _ db2
  have dc0 := Dp.fix (same_fix sq) _ _ dc0
  have dc1 := Dp.fix (same_fix sq) _ _ dc1
  have dc2 := Dp.fix (same_fix sq) _ _ dc2
  have dsc := Dp.fix (same_fix sq) _ _ dsc
  have dm0 := Dp.fix (same_fix sq) _ _ dm0
  have dm1 := Dp.fix (same_fix sq) _ _ dm1
  have dmm := Dp.fix (same_fix sq) _ _ dmm
  have dgg := Dp.fix (same_fix sq) _ _ dgg
  have dhh := Dp.fix (same_fix sq) _ _ dhh
  have T3 := T3.ext sq
  generalize upd E15 ss (.tup [V.int 1]) = E16 at dss T3 da0 da1 da2 db0 db1 db2 dc0 dc1 dc2 dsc dm0 dm1 dmm dgg dhh ⊢
  clear sq
  refine ⟨_, rfl, size1, fun cc ncc => ?_⟩
  obtain ⟨sq, dcc⟩ := mk_tup (xs := [V.ref sc]) (ds := [scD scene3]) ncc (.cons dsc .nil)
  have da0 := Dp.fix (same_fix sq) _ _ da0
  have da1 := Dp.fix (same_fix sq) _ _ da1
  have da2 := Dp.fix (same_fix sq) _ _ da2
  have db0 := Dp.fix (same_fix sq) _ _ db0
  have db1 := Dp.fix (same_fix sq) _ _ db1
  have db2 := Dp.fix (same_fix sq) _ _ db2
  have dc0 := Dp.fix (same_fix sq) _ _ dc0
  have dc1 := Dp.fix (same_fix sq) _ _ dc1
  have dc2 := Dp.fix (same_fix sq) _ _ dc2
  have dsc := Dp.fix (same_fix sq) _ _ dsc
  have dm0 := Dp.fix (same_fix sq) _ _ dm0
  have dm1 := Dp.fix (same_fix sq) _ _ dm1
  have dmm := Dp.fix (same_fix sq) _ _ dmm
  have dgg := Dp.fix (same_fix sq) _ _ dgg
  have dhh := Dp.fix (same_fix sq) _ _ dhh
  have dss := Dp.fix (same_fix sq) _ _ dss
  have T3 := T3.ext sq
  generalize upd E16 cc (.tup [V.ref sc]) = E17 at dcc T3 da0 da1 da2 db0 db1 db2 dc0 dc1 dc2 dsc dm0 dm1 dmm dgg dhh dss ⊢
  clear sq
  refine ⟨size1, fun oo noo => ?_⟩
  obtain ⟨sq, doo⟩ := mk_tup (xs := [V.int 0]) (ds := [.int 0]) noo (.cons (.int 0) (.nil))
  have da0 := Dp.fix (same_fix sq) _ _ da0
  have da1 := Dp.fix (same_fix sq) _ _ da1
  have da2 := Dp.fix (same_fix sq) _ _ da2
  have db0 := Dp.fix (same_fix sq) _ _ db0
  have db1 := Dp.fix (same_fix sq) _ _ db1
  have db2 := Dp.fix (same_fix sq) _ _ db2
  have dc0 := Dp.fix (same_fix sq) _ _ dc0
  have dc1 := Dp.fix (same_fix sq) _ _ dc1
  have dc2 := Dp.fix (same_fix sq) _ _ dc2
  have dsc := Dp.fix (same_fix sq) _ _ dsc
  have dm0 := Dp.fix (same_fix sq) _ _ dm0
  have dm1 := Dp.fix (same_fix sq) _ _ dm1
  have dmm := Dp.fix (same_fix sq) _ _ dmm
  have dgg := Dp.fix (same_fix sq) _ _ dgg
  have dhh := Dp.fix (same_fix sq) _ _ dhh
  have dss := Dp.fix (same_fix sq) _ _ dss
  have dcc := Dp.fix (same_fix sq) _ _ dcc
  have T3 := T3.ext sq
  generalize upd E17 oo (.tup [V.int 0]) = E18 at doo T3 da0 da1 da2 db0 db1 db2 dc0 dc1 dc2 dsc dm0 dm1 dmm dgg dhh dss dcc ⊢
  clear sq
  refine ⟨size7, fun w0 nw0 => ?_⟩
  obtain ⟨sq, dw0⟩ := mk_tup (xs := [V.int 2, V.ref mm, V.ref gg, V.ref hh, V.ref ss, V.ref cc, V.ref oo]) (ds := [.int 2, .tuple ([[0], []].map dInts), .tuple ([].map dInts), dInts [], dInts [1], .tuple ([scene3].map scD), dInts [0]]) nw0 (.cons (.int 2) (.cons dmm (.cons dgg (.cons dhh (.cons dss (.cons dcc (.cons doo .nil)))))))
  have da0 := Dp.fix (same_fix sq) _ _ da0
  have da1 := Dp.fix (same_fix sq) _ _ da1
  have da2 := Dp.fix (same_fix sq) _ _ da2
  have db0 := Dp.fix (same_fix sq) _ _ db0
  have db1 := Dp.fix (same_fix sq) _ _ db1
  have db2 := Dp.fix (same_fix sq) _ _ db2
  have dc0 := Dp.fix (same_fix sq) _ _ dc0
  have dc1 := Dp.fix (same_fix sq) _ _ dc1
  have dc2 := Dp.fix (same_fix sq) _ _ dc2
  have dsc := Dp.fix (same_fix sq) _ _ dsc
  have dm0 := Dp.fix (same_fix sq) _ _ dm0
  have dm1 := Dp.fix (same_fix sq) _ _ dm1
  have dmm := Dp.fix (same_fix sq) _ _ dmm
  have dgg := Dp.fix (same_fix sq) _ _ dgg
  have dhh := Dp.fix (same_fix sq) _ _ dhh
  have dss := Dp.fix (same_fix sq) _ _ dss
  have dcc := Dp.fix (same_fix sq) _ _ dcc
  have doo := Dp.fix (same_fix sq) _ _ doo
  have T3 := T3.ext sq
  generalize upd E18 w0 (.tup [V.int 2, V.ref mm, V.ref gg, V.ref hh, V.ref ss, V.ref cc, V.ref oo]) = E19 at dw0 T3 da0 da1 da2 db0 db1 db2 dc0 dc1 dc2 dsc dm0 dm1 dmm dgg dhh dss dcc doo ⊢
  clear sq
  have dw0 : Dp K E19 (.ref w0) show2.d := dw0
  refine ⟨_, rfl, .ref w0, show2, rfl, dw0, valid_2, T3, fun B4 y4 U4 => ⟨_, rfl, rfl, _, rfl, ifT eq_t2 ?_⟩⟩
  refine ⟨_, rfl, show2, (by rw [text_2]; exact List.append_nil _), valid_2, U4, fun v5 B5 y5 U5 dv5 => ?_⟩
  have f2 := fine_show valid_2
  refine ⟨_, rfl, show2.d, show2.d, dv5, Dp.fix ((extN_fix y4).trans (extN_fix y5)) _ _ dw0, f2.shaped (by decide), f2.shaped (by decide), qB (eqv_self valid_2) (q B5)⟩
end
end K33
/-! The end, first half: the law called at the head's heap, with one table; the caller's guards are known. -/
namespace K33
open PySem PySem.Spec PyProof.Rows L2
abbrev scriptO (vs : List Value) : Obj := { cls := .type "list", data := .seq vs.toArray }
abbrev tabO : Obj := { cls := .none, data := .fields #[] }
/-- what the walk tracks at its begin: the table, and the script where the head's fragment does not know it -/
def H0 (K : PySem.W.Frag) (a P : Addr) (vs : List Value) (ns : List Int) : Hp := fun b =>
  if b = P then some (.tbl #[]) else if b = a then (if (K.lookup a).isNone then some (.frz (scriptO vs) (.lst (ns.map V.int))) else none) else none
section
variable {K : PySem.W.Frag} {a P : Addr} {vs : List Value} {ns : List Int} {h : Heap}
theorem H0_P : H0 K a P vs ns P = some (.tbl #[]) := if_pos rfl
theorem H0_cases {b : Addr} {u : HO} (e : H0 K a P vs ns b = some u) : (b = P ∧ u = .tbl #[]) ∨ (b = a ∧ b ≠ P ∧ K.lookup a = none ∧ u = .frz (scriptO vs) (.lst (ns.map V.int))) := by
  unfold H0 at e
  by_cases h1 : b = P
  · rw [if_pos h1] at e
    exact .inl ⟨h1, (Option.some.inj e).symm⟩
  · rw [if_neg h1] at e
    by_cases h2 : b = a
    · rw [if_pos h2] at e
      cases hk : K.lookup a with
      | none =>
        rw [hk] at e
        exact .inr ⟨h2, h1, rfl, (Option.some.inj e).symm⟩
      | some o =>
        rw [hk] at e
        cases e
    · rw [if_neg h2] at e
      cases e
/-- an object that is neither the script nor the table is not tracked -/
theorem H0_off (ha : h.get? a = some (scriptO vs)) (hP : h.get? P = some tabO) {b : Addr} {o : Obj} (e : h.get? b = some o) (n1 : o ≠ scriptO vs) (n2 : o ≠ tabO) : H0 K a P vs ns b = none := by
  cases q : H0 K a P vs ns b with
  | none => rfl
  | some u =>
    rcases H0_cases q with ⟨rfl, _⟩ | ⟨rfl, _, _, _⟩
    · exact absurd (Option.some.inj (e.symm.trans hP)) n2
    · exact absurd (Option.some.inj (e.symm.trans ha)) n1
end
/-- the objects of the base that the walk may lean on -/
theorem law_end {P : Program} {w : World} {K : PySem.W.Frag} {mg mb : Str → Option Value} {s : Shared} {f a c T : Addr} {vs : List Value} {ns : List Int}
    (kin : K.In s.heap) (gns : s.heap.Ns mainGlobals mg) (bns : s.heap.Ns builtinsNs mb) (boot : ∀ x : Str, x ≠ "__name__" → mb x = bootBuiltins x) (lim : s.heap.NoLimit) (gens : s.gens = #[])
    (bmod : ∃ (bm : Addr) (ob : Obj), mg "__builtins__" = some (.ref bm) ∧ bm ≠ builtinsNs ∧ s.heap.get? bm = some ob ∧ ob.cls = .type "module" ∧ ob.dict = some builtinsNs ∧ ob.data = .plain)
    (hT : s.heap.get? T = some tabO) (outT : K.lookup T = none) (hc : PySem.W.CodeHd s.heap c T)
    (ha : s.heap.get? a = some (scriptO vs)) (hi : IntsAre vs ns) (hl : ns.length ≤ sizeLine)
    (go : ∀ (base : Heap) (H : Hp), LamX.TabB base mg c T → H T = some (.tbl #[]) → SqL K H a (ns.map V.int) → Env0 P w K mg base callerA [] s H →
      codeAny (model P w) callerA (.call (.ref f) ⟨[.ref a], []⟩) (CR C8.CX0 [] P w H s (fun v _ => v = .bl true) fun _ _ _ => False) s) :
    codeAny (model P w) callerA (.call (.ref f) ⟨[.ref a], []⟩) (fun r s' => r = .ok (.ret (.bool true)) ∧ OldK s.heap s'.heap ∧ s'.os = s.os ∧ AllBare s'.gens) s := by
  have hv := vals_ints hi
  have vl := hi.length
  have aT : a ≠ T := fun z => by
    rw [z, hT] at ha
    cases ha
  have off : ∀ {b : Addr} {o : Obj}, s.heap.get? b = some o → o ≠ scriptO vs → o ≠ tabO → (hidT s.heap (H0 K a T vs ns)).get? b = some o := fun e n1 n2 => hidT_get e (H0_off ha hT e n1 n2)
  have offD : ∀ {b : Addr} {o : Obj} {es : Array DictEntry} {ep : Nat}, s.heap.get? b = some o → o.data = .dict es ep → (hidT s.heap (H0 K a T vs ns)).get? b = some o := fun {b o es ep} e d =>
    off e (fun z => by rw [z] at d; cases d) (fun z => by rw [z] at d; cases d)
  have toNs : ∀ {b : Addr} {m : Str → Option Value}, s.heap.Ns b m → (hidT s.heap (H0 K a T vs ns)).Ns b m := fun {b m} q => by
    obtain ⟨o, es, ep, e, d, r⟩ := q
    exact ⟨o, es, ep, offD e d, d, r⟩
  have toK : K.In (hidT s.heap (H0 K a T vs ns)) := fun b o e => hidT_get (kin b o e) (by
    cases q : H0 K a T vs ns b with
    | none => rfl
    | some u =>
      rcases H0_cases q with ⟨rfl, _⟩ | ⟨rfl, _, hk, _⟩
      · rw [outT] at e
        cases e
      · rw [hk] at e
        cases e)
  have tb : LamX.TabB (hidT s.heap (H0 K a T vs ns)) mg c T := by
    constructor
    · obtain ⟨o, us, file, tf, flags, tg, inF, text, tt, e1, r1, r2, r3, rest⟩ := hc
      have n1 : o ≠ scriptO vs := fun z => by
        rw [z] at r2
        cases r2
      have n2 : o ≠ tabO := fun z => by
        rw [z] at r2
        cases r2
        simp at r3
      exact ⟨o, us, file, tf, flags, tg, inF, text, tt, off e1 n1 n2, r1, r2, r3, rest⟩
    · obtain ⟨bm, ob, b1, b2, b3, b4, b5, b6⟩ := bmod
      refine ⟨bm, ob, b1, b2, fun z => ?_, fun z => ?_, off b3 (fun z => ?_) (fun z => ?_), b4, b5, b6⟩
      · obtain ⟨o, es, ep, e, d, _⟩ := gns
        rw [← z, b3] at e
        cases e
        rw [b6] at d
        cases d
      · rw [z, hT] at b3
        cases b3
        cases b4
      · rw [z] at b6
        cases b6
      · rw [z] at b6
        cases b6
    · intro z
      obtain ⟨o, es, ep, e, d, _⟩ := gns
      rw [z, hT] at e
      cases e
      cases d
  have mod : L2.Mod K mg (hidT s.heap (H0 K a T vs ns)) := ⟨toK, toNs gns, ⟨mb, toNs bns, boot⟩, let ⟨mc, q1, q2⟩ := lim; ⟨mc, toNs q1, q2⟩⟩
  have hok : HOk P w (H0 K a T vs ns) s.heap := fun b u q => by
    rcases H0_cases q with ⟨rfl, rfl⟩ | ⟨rfl, _, _, rfl⟩
    · exact hT
    · exact ⟨ha, by rw [List.length_map]; exact hl, vs, _, hv, ha⟩
  have env : Env0 P w K mg (hidT s.heap (H0 K a T vs ns)) callerA [] s (H0 K a T vs ns) := ⟨rfl, mod, fun b o e => of_hidT e, Nat.le_of_eq (hidT_size _ _), trivial, fun b hb => absurd hb List.not_mem_nil, hok, .of_eq gens⟩
  have seq : SqL K (H0 K a T vs ns) a (ns.map V.int) := by
    cases hk : K.lookup a with
    | none => exact .inl (.inr ⟨scriptO vs, by
        unfold H0
        rw [if_neg aT, if_pos rfl, hk]
        rfl⟩)
    | some o =>
      have e := kin a o hk
      rw [ha] at e
      cases e
      exact .inr ⟨_, vs.toArray, _, hk, rfl, rfl, rfl, by rw [List.size_toArray, vl]; exact hl, by simpa using hv⟩
  refine codeAny_mono (go _ _ tb H0_P seq env) fun r s' q => ?_
  match r, q with
  | .ok (.ret u), q =>
    obtain ⟨v, H', os, bare, un, hok', rel, rfl⟩ := q
    obtain rfl : u = Value.bool true := rel
    obtain ⟨more, tE⟩ := un.tbls T #[] H0_P
    have tN := hok' T _ tE
    have stay : ∀ b o, b ≠ T → s.heap.get? b = some o → s'.heap.get? b = some o := fun b o nb e => by
      cases q : H0 K a T vs ns b with
      | none => exact un.keep b o e q (by intro z; cases z) (by simp)
      | some u =>
        rcases H0_cases q with ⟨z, _⟩ | ⟨_, _, _, rfl⟩
        · exact absurd z nb
        · have k1 := (hok b _ q).1
          have k2 := (hok' b _ (un.frzs b _ _ q)).1
          rw [e] at k1
          cases k1
          exact k2
    refine ⟨rfl, ⟨fun b o e => ?_, fun b o e => ?_⟩, os, bare⟩
    · by_cases z : b = T
      · subst z
        rw [hT] at e
        cases e
        exact .inr (.inl ⟨(hc.tab hT).isCodeTable, rfl, #[], _, rfl, tN⟩)
      · exact .inl (stay b o z e)
    · by_cases z : b = T
      · subst z
        exact ⟨_, tN⟩
      · exact ⟨o, stay b o z e⟩
  | .error e, q => exact False.elim q
  | .ok .next, q => exact False.elim q
  | .ok .brk, q => exact False.elim q
  | .ok .cont, q => exact False.elim q
end K33
/-! The end. -/
namespace K33
open PySem PySem.Spec PyProof.Rows L2
theorem law_run {P : Program} {w : World} {K : PySem.W.Frag} {mg : Str → Option Value} {base : Heap} {s : Shared} {H : Hp} {a : Addr} {ns : List Int} (T : Txt K mg) (TB : TBase base K mg)
    (tE : H (He.cT K ("need_show", none)).2 = some (.tbl #[])) (sq : SqL K H a (ns.map V.int)) (hl : ns.length ≤ 900) (e0 : Env0 P w K mg base callerA [] s H) :
    codeAny (model P w) callerA (.call (.ref (He.ga K "law")) ⟨[.ref a], []⟩) (CR C8.CX0 [] P w H s (fun v _ => v = .bl true) fun _ _ _ => False) s := by
  obtain ⟨fd, F⟩ := T.says.def_ 27 (d := defD "law" s_law) rfl
  have bind := FunD.bindsA (ps := ["_law_script"]) F fun _ _ _ _ _ _ us hl => match us, hl with | [_], _ => rfl
  obtain ⟨oc, od, dV, kV, doc, pm, an, cdv, ct, osl, rfl, lk, hcd, hD, hK⟩ := F.ex
  refine LamX.run_ofS (k := 8) (CX := C8.CX0) lk hcd sc_law ⟨rfl, by decide, by decide⟩ e0 (us := [.ref a]) (vs := [.ref a]) (bind s [.ref a] rfl) (.cons rfl .nil) rfl fun hr => ?_
  obtain ⟨t, h1, h2⟩ := law_body (P := P) (w := w) T TB _ cdv s H [.ref a] (fun v _ => v = .bl true) (fun _ _ _ => False) hr ⟨a, ns, rfl, sq, hl, fun p hp => by
    obtain rfl := List.mem_singleton.mp hp
    exact LamX.TabS.nil tE, fun _ => rfl⟩
  exact ⟨t, h1.nox, h2⟩
end K33
open PySem PySem.W PySem.Calls PyProof.Rows
theorem PySem.Challenge.cw_faderscenes_k33_whole_texts_of_shows_holds : PySem.Challenge.rw_faderscenes_k33_whole_texts_of_shows.Holds := by
  w_on
  o_law
  refine HandSHeadRun.head_any (r := K33.R) (q := view K33.R.prog [64]) (H := K33.hk) (ob := K33.ob) (M := 4000) (loose := K33.loose1 ++ K33.loose2) (d := HandSHeadRun.topDef K33.R.prog 64) (kwd := []) K33.ob_eq
    (by kernel_rfl) (fun s => by kernel_rfl) K33.head_run (by kernel_rfl) (by kernel_rfl) (by kernel_rfl) (by rfl) (by first | assumption | decide +kernel) (by decide +kernel) ⟨rfl, rfl, rfl, rfl, rfl, by decide +kernel⟩ ?hw ?hc
  case hw => w_witness2
  case hc =>
    refine Att.attach_callB (l := PySem.Challenge.rw_faderscenes_k33_whole_texts_of_shows) (n := 63) rfl (by kernel_rfl) fun w s₀ s mg mb f o pm cd doc a vs ns G Y ho hd hcd hmg hobj hints hlen hbits hg => ?_
    obtain ⟨K, kin, c⟩ := Y
    have T : K33.Txt K mg := ⟨c.t.d, _, kin, G.T.g⟩
    have en : (HandSHeadRun.topDef K33.R.prog 64).name = ("law" : PySem.Str) := by kernel_rfl
    rw [en] at hmg
    have e2 := hmg.symm.trans (T.glo "law" 27 rfl)
    cases e2
    have mem : (("need_show", none) : He.Defn) ∈ K33.tf := List.mem_singleton.mpr rfl
    exact K33.law_end kin G.T.g G.T.b G.T.builtins G.T.nolimit hg G.T.bmain (c.empty _ mem) (c.out _ mem) (codeHd_of_K kin (c.hd _ mem)) hobj hints (Nat.le_trans hlen (by decide)) fun base H TB tE sq e0 => K33.law_run T TB tE sq (Nat.le_trans hlen (by decide)) e0
