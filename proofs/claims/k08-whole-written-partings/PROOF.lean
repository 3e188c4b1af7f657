import PyProof.Rows.All
import HandS.ForMost
import HandS.NoneIn
import HandS.Walk
import KE.GoesEnum
import PySem.Challenge.RW_crossmeans_k08_whole_written_partings
import HandS.WordsList
import HandS.Text
import HandS.TupAny
import HandS.IsInst
import HandS.Codes
import HandS.ForExc
import HandS.Property
import KE.KExcSuper
import KE.KSuper
import HandS.Nested
import HandS.NestedHot
import HandS.ExcInitHot
import HandS.ExcInit
import HandS.RaiseMore
import HandS.SuiteRaise
import HandS.ExcIs
import HandS.ExcField
import HandS.ClsMeth
import HandS.CallLocal
import HandS.WordsDict
import HandS.Strs
import HandS.Style
import HandS.ExcCtx
import HandS.ReplaceLit
import PyProof.StrOps2
import HandS.Conv
import HandS.Lambda
import HandS.Head0
import HandS.Head1
import HandS.Head2
import HandS.HeadEnd
import HandS.HeadHook1
import HandS.HeadHook2
set_option Elab.async false
set_option linter.all false
set_option maxRecDepth 100000
set_option maxHeartbeats 4000000
/-! K1: the plain law of partings, their written form and its reading. No program in sight. -/
namespace Kw
open PySem TL

/-! ### the first place of a label -/
def fix (x : Int) : List Int → Nat
  | [] => 0
  | y :: r => if y = x then 0 else fix x r + 1
theorem fix_at {x : Int} : ∀ {l : List Int}, x ∈ l → l[fix x l]? = some x
  | [], h => by simp at h
  | y :: r, h => by
    unfold fix
    by_cases e : y = x
    · rw [if_pos e, e]; rfl
    · rw [if_neg e]
      have h' : x ∈ r := by
        rcases List.mem_cons.mp h with z | z
        · exact absurd z.symm e
        · exact z
      simpa using fix_at h'
theorem fix_min {x : Int} : ∀ {l : List Int} {j : Nat}, j < fix x l → l[j]? ≠ some x
  | [], j, h => by simp [fix] at h
  | y :: r, j, h => by
    unfold fix at h
    by_cases e : y = x
    · rw [if_pos e] at h; omega
    · rw [if_neg e] at h
      cases j with
      | zero => simpa using e
      | succ j =>
        have h' : j < fix x r := by omega
        simpa using fix_min h'
theorem fix_is {x : Int} {l : List Int} {m : Nat} (h : l[m]? = some x) (hm : ∀ j, j < m → l[j]? ≠ some x) : fix x l = m := by
  have hx : x ∈ l := List.mem_of_getElem? h
  rcases Nat.lt_trichotomy (fix x l) m with q | q | q
  · exact absurd (fix_at hx) (hm _ q)
  · exact q
  · exact absurd h (fix_min q)
theorem fix_le {x : Int} {l : List Int} {m : Nat} (h : l[m]? = some x) : fix x l ≤ m := by
  rcases Nat.lt_or_ge m (fix x l) with q | q
  · exact absurd h (fix_min q)
  · exact q
theorem fix_take {x : Int} {l : List Int} {i : Nat} (h : x ∈ l.take i) : fix x l < i := by
  obtain ⟨k, hk⟩ := List.getElem?_of_mem h
  rw [List.getElem?_take] at hk
  by_cases c : k < i
  · rw [if_pos c] at hk
    exact Nat.lt_of_le_of_lt (fix_le hk) c
  · rw [if_neg c] at hk; cases hk
/-- the names that labels decide -/
def canon (l : List Int) : List Nat := l.map fun x => fix x l
theorem canon_len (l : List Int) : (canon l).length = l.length := by unfold canon; rw [List.length_map]
theorem canon_get {l : List Int} {k : Nat} {x : Int} (h : l[k]? = some x) : (canon l)[k]? = some (fix x l) := by
  unfold canon
  rw [List.getElem?_map, h]; rfl
abbrev zs (ns : List Nat) : List Int := ns.map fun k : Nat => (k : Int)
theorem zs_get {ns : List Nat} {k m : Nat} (h : ns[k]? = some m) : (zs ns)[k]? = some (m : Int) := by
  rw [List.getElem?_map, h]; rfl
theorem of_zs {ns : List Nat} {k : Nat} {m : Nat} (h : (zs ns)[k]? = some (m : Int)) : ns[k]? = some m := by
  rw [List.getElem?_map] at h
  cases e : ns[k]? with
  | none => rw [e] at h; cases h
  | some y =>
    rw [e] at h
    have q : (y : Int) = (m : Int) := Option.some.inj h
    rw [show y = m by omega]
/-- the names of a parting -/
def Nm (ns : List Nat) : Prop := canon (zs ns) = ns
theorem nm_canon (l : List Int) : Nm (canon l) := by
  unfold Nm
  refine List.ext_getElem? fun k => ?_
  cases h : l[k]? with
  | none =>
    have h1 : l.length ≤ k := List.getElem?_eq_none_iff.mp h
    rw [List.getElem?_eq_none (by rw [canon_len, List.length_map, canon_len]; exact h1), List.getElem?_eq_none (by rw [canon_len]; exact h1)]
  | some x =>
    have h1 := canon_get h
    have h2 := zs_get h1
    rw [canon_get h2, h1]
    refine congrArg some (fix_is ?_ fun j hj => ?_)
    · exact zs_get (canon_get (fix_at (List.mem_of_getElem? h)))
    · intro q
      have q2 := of_zs q
      cases hj2 : l[j]? with
      | none =>
        rw [List.getElem?_eq_none (by rw [canon_len]; exact List.getElem?_eq_none_iff.mp hj2)] at q2
        cases q2
      | some y =>
        rw [canon_get hj2] at q2
        have e : fix y l = fix x l := Option.some.inj q2
        have := fix_le hj2
        omega
theorem nm_le {ns : List Nat} (h : Nm ns) {k m : Nat} (e : ns[k]? = some m) : m ≤ k := by
  have h1 := canon_get (zs_get e)
  rw [h, e] at h1
  have := Option.some.inj h1
  have h2 := fix_le (zs_get e)
  omega
theorem nm_self {ns : List Nat} (h : Nm ns) {k m : Nat} (e : ns[k]? = some m) : ns[m]? = some m := by
  have h1 := canon_get (zs_get e)
  rw [h, e] at h1
  have e1 : m = fix (m : Int) (zs ns) := Option.some.inj h1
  have h2 : (zs ns)[fix (m : Int) (zs ns)]? = some (m : Int) := fix_at (List.mem_of_getElem? (zs_get e))
  rw [← e1] at h2
  exact of_zs h2
/-! ### lots -/
/-- what stands in the lot m among the first i plots -/
def row (ns : List Nat) (i m : Nat) : List Nat := (List.range i).filter fun k => decide (ns[k]? = some m)
theorem row_zero (ns : List Nat) (m : Nat) : row ns 0 m = [] := rfl
theorem row_hit {ns : List Nat} {i m : Nat} (h : ns[i]? = some m) : row ns (i + 1) m = row ns i m ++ [i] := by
  unfold row
  rw [List.range_succ, List.filter_append]
  simp [h]
theorem row_miss {ns : List Nat} {i m : Nat} (h : ns[i]? ≠ some m) : row ns (i + 1) m = row ns i m := by
  unfold row
  rw [List.range_succ, List.filter_append]
  simp [h]
theorem mem_row {ns : List Nat} {i m k : Nat} : k ∈ row ns i m ↔ k < i ∧ ns[k]? = some m := by
  unfold row
  rw [List.mem_filter, List.mem_range, decide_eq_true_iff]
theorem row_len (ns : List Nat) (i m : Nat) : (row ns i m).length ≤ i := by
  unfold row
  exact Nat.le_trans (List.length_filter_le _ _) (by rw [List.length_range]; exact Nat.le_refl _)
def lots (ns : List Nat) : List (List Nat) := ((List.range ns.length).filter fun m => decide (ns[m]? = some m)).map (row ns ns.length)
theorem lots_len (ns : List Nat) : (lots ns).length ≤ ns.length := by
  unfold lots
  rw [List.length_map]
  exact Nat.le_trans (List.length_filter_le _ _) (by rw [List.length_range]; exact Nat.le_refl _)
/-- the rows that hold something are the lots -/
theorem rows_lots {ns : List Nat} (h : Nm ns) : ((List.range ns.length).map (row ns ns.length)).filter (fun r => !r.isEmpty) = lots ns := by
  unfold lots
  rw [List.filter_map]
  refine congrArg (List.map _) (List.filter_congr fun m hm => ?_)
  have hm' := List.mem_range.mp hm
  show (!(row ns ns.length m).isEmpty) = decide (ns[m]? = some m)
  by_cases e : ns[m]? = some m
  · rw [decide_eq_true e]
    have : m ∈ row ns ns.length m := mem_row.mpr ⟨hm', e⟩
    cases q : row ns ns.length m with
    | nil => rw [q] at this; cases this
    | cons a b => rfl
  · rw [decide_eq_false e]
    cases q : row ns ns.length m with
    | nil => rfl
    | cons a b =>
      have : a ∈ row ns ns.length m := by rw [q]; exact List.mem_cons_self ..
      exact absurd (nm_self h (mem_row.mp this).2) e
theorem lots_small {ns : List Nat} {l : List Nat} (h : l ∈ lots ns) : l.length ≤ ns.length ∧ ∀ k ∈ l, k < ns.length := by
  unfold lots at h
  obtain ⟨m, _, rfl⟩ := List.mem_map.mp h
  exact ⟨row_len _ _ _, fun k hk => (mem_row.mp hk).1⟩
/-! ### the written form, in signs -/
def lotL (l : List Nat) : List Nat := joinL [32] (l.map numL)
def textL (ns : List Nat) : List Nat := joinL [124] ((lots ns).map lotL)
def mk (l : List Nat) : Str := ⟨l.toArray⟩
theorem tl_mk' (l : List Nat) : tl (mk l) = l := rfl
theorem mk_tl' (x : Str) : mk (tl x) = x := mk_tl x
theorem mk_inj {a b : List Nat} (h : mk a = mk b) : a = b := congrArg tl h
def text (ns : List Nat) : Str := mk (textL ns)
theorem join_mk (y : Str) (parts : List (List Nat)) : Txt.join y (parts.map mk) = mk (joinL (tl y) parts) := by
  refine ext_tl ?_
  rw [join_eq, tl_join, List.map_map]
  have e : (tl ∘ mk) = (id : List Nat → List Nat) := rfl
  rw [e, List.map_id]; rfl
theorem str_num (k : Nat) : Str.ofString (toString ((k : Nat) : Int)) = mk (numL k) := ext_tl (tl_num k)
theorem tl_sp : tl (" " : Str) = [32] := by decide +kernel
theorem tl_bar : tl ("|" : Str) = [124] := by decide +kernel
theorem join_lot (l : List Nat) : Txt.join (" " : Str) (l.map fun k => mk (numL k)) = mk (lotL l) := by
  have e : (l.map fun k => mk (numL k)) = (l.map numL).map mk := by rw [List.map_map]; rfl
  rw [e, join_mk, tl_sp]; rfl
theorem join_text (ns : List Nat) : Txt.join ("|" : Str) ((lots ns).map fun l => mk (lotL l)) = text ns := by
  have e : ((lots ns).map fun l => mk (lotL l)) = ((lots ns).map lotL).map mk := by rw [List.map_map]; rfl
  rw [e, join_mk, tl_bar]; rfl
theorem joinL_len (S : List Nat) (b : Nat) : ∀ (ps : List (List Nat)), (∀ p ∈ ps, p.length ≤ b) → (joinL S ps).length ≤ ps.length * (b + S.length)
  | [], _ => by simp [joinL]
  | [p], h => by
    have := h p (List.mem_singleton.mpr rfl)
    show p.length ≤ 1 * (b + S.length)
    omega
  | p :: q :: r, h => by
    have h1 := h p (List.mem_cons_self ..)
    have ih := joinL_len S b (q :: r) fun z hz => h z (List.mem_cons_of_mem _ hz)
    show (p ++ (S ++ joinL S (q :: r))).length ≤ (r.length + 1 + 1) * (b + S.length)
    rw [List.length_append, List.length_append]
    rw [List.length_cons] at ih
    rw [Nat.succ_mul]
    omega
theorem mem_joinL {S : List Nat} {c : Nat} : ∀ {ps : List (List Nat)}, c ∈ joinL S ps → c ∈ S ∨ ∃ p ∈ ps, c ∈ p
  | [], h => by simp [joinL] at h
  | [p], h => .inr ⟨p, List.mem_singleton.mpr rfl, h⟩
  | p :: q :: r, h => by
    have h' : c ∈ p ++ (S ++ joinL S (q :: r)) := h
    rcases List.mem_append.mp h' with z | z
    · exact .inr ⟨p, List.mem_cons_self .., z⟩
    · rcases List.mem_append.mp z with z | z
      · exact .inl z
      · rcases mem_joinL z with z | ⟨u, hu, z⟩
        · exact .inl z
        · exact .inr ⟨u, List.mem_cons_of_mem _ hu, z⟩
/-- all signs below 128 -/
def Asc (l : List Nat) : Prop := ∀ c ∈ l, c < 128
theorem asc_num (k : Nat) : Asc (numL k) := fun c hc => by
  have := numL_digits k c hc
  omega
theorem asc_join {S : List Nat} (hS : Asc S) {ps : List (List Nat)} (h : ∀ p ∈ ps, Asc p) : Asc (joinL S ps) := fun c hc => by
  rcases mem_joinL hc with z | ⟨p, hp, z⟩
  · exact hS c z
  · exact h p hp c z
theorem asc_text (ns : List Nat) : Asc (textL ns) := by
  refine asc_join (fun c hc => by rw [List.mem_singleton.mp hc]; decide) fun p hp => ?_
  obtain ⟨l, _, rfl⟩ := List.mem_map.mp hp
  refine asc_join (fun c hc => by rw [List.mem_singleton.mp hc]; decide) fun q hq => ?_
  obtain ⟨k, _, rfl⟩ := List.mem_map.mp hq
  exact asc_num k
theorem len_lot {n : Nat} {l : List Nat} (hn : n ≤ 20) (h1 : l.length ≤ n) (h : ∀ k ∈ l, k < n) : (lotL l).length ≤ 60 := by
  have e := joinL_len [32] 2 (l.map numL) fun p hp => by
    obtain ⟨k, hk, rfl⟩ := List.mem_map.mp hp
    exact numL_len (k := 2) (by decide) (by have := h k hk; omega)
  rw [List.length_map] at e
  have : l.length * (2 + [32].length) = l.length * 3 := rfl
  unfold lotL
  omega
theorem len_text {ns : List Nat} (hn : ns.length ≤ 20) : (textL ns).length ≤ 1220 := by
  have e := joinL_len [124] 60 ((lots ns).map lotL) fun p hp => by
    obtain ⟨l, hl, rfl⟩ := List.mem_map.mp hp
    obtain ⟨h1, h2⟩ := lots_small hl
    exact len_lot hn h1 h2
  rw [List.length_map] at e
  have := lots_len ns
  have : (lots ns).length * (60 + [124].length) = (lots ns).length * 61 := rfl
  unfold textL
  omega
end Kw

set_option maxHeartbeats 4000000
/-! K2: the reading of a text, by the program and by the law: one plain function. -/
namespace Kw
open PySem TL

/-! ### splitting -/
theorem split_mk (x y : Str) (hy : tl y ≠ []) (hk : y.cps.all (· < 256) = true) : Txt.split x y = (spl (tl y) 0 [] (tl x)).map mk := by
  have h := split_spl x y hy (kind_ok hk)
  have h2 := congrArg (List.map mk) h
  rw [List.map_map] at h2
  have e : (mk ∘ tl) = (id : Str → Str) := funext fun z => mk_tl' z
  rw [e, List.map_id] at h2
  exact h2
theorem split_bar (t : List Nat) : Txt.split (mk t) ("|" : Str) = (spl [124] 0 [] t).map mk := by
  have h := split_mk (mk t) ("|" : Str) (by rw [tl_bar]; simp) (by decide +kernel)
  rw [tl_bar] at h
  exact h
theorem split_sp (t : List Nat) : Txt.split (mk t) (" " : Str) = (spl [32] 0 [] t).map mk := by
  have h := split_mk (mk t) (" " : Str) (by rw [tl_sp]; simp) (by decide +kernel)
  rw [tl_sp] at h
  exact h
theorem spl_cons1 (c d : Nat) (acc r : List Nat) : spl [c] 0 acc (d :: r) = if d = c then acc :: spl [c] 0 [] r else spl [c] 0 (acc ++ [d]) r := by
  by_cases e : d = c
  · rw [if_pos e, spl_hit (by rw [e]; show ((c :: r).take 1 == [c]) = true; simp)]; rfl
  · rw [if_neg e, spl_miss (pre_of_head [] r e)]
theorem spl_ne (c : Nat) : ∀ (l acc : List Nat), spl [c] 0 acc l ≠ []
  | [], acc => by rw [spl_nil]; simp
  | d :: r, acc => by
    rw [spl_cons1]
    by_cases e : d = c
    · rw [if_pos e]; simp
    · rw [if_neg e]; exact spl_ne c r _
theorem spl_sum (c : Nat) : ∀ (l acc : List Nat), ((spl [c] 0 acc l).map fun p => p.length + 1).sum = acc.length + l.length + 1
  | [], acc => by rw [spl_nil]; simp
  | d :: r, acc => by
    rw [spl_cons1]
    by_cases e : d = c
    · rw [if_pos e, List.map_cons, List.sum_cons, spl_sum c r []]
      simp only [List.length_cons, List.length_nil]
      omega
    · rw [if_neg e, spl_sum c r _, List.length_append]
      simp only [List.length_cons, List.length_nil]
      omega
theorem spl_mem (c : Nat) : ∀ (l acc : List Nat) (p : List Nat) (x : Nat), p ∈ spl [c] 0 acc l → x ∈ p → x ∈ acc ∨ x ∈ l
  | [], acc, p, x, hp, hx => by
    rw [spl_nil] at hp
    rw [List.mem_singleton.mp hp] at hx
    exact .inl hx
  | d :: r, acc, p, x, hp, hx => by
    rw [spl_cons1] at hp
    by_cases e : d = c
    · rw [if_pos e] at hp
      rcases List.mem_cons.mp hp with q | q
      · rw [q] at hx; exact .inl hx
      · rcases spl_mem c r [] p x q hx with z | z
        · cases z
        · exact .inr (List.mem_cons_of_mem _ z)
    · rw [if_neg e] at hp
      rcases spl_mem c r _ p x hp hx with z | z
      · rcases List.mem_append.mp z with z | z
        · exact .inl z
        · rw [List.mem_singleton.mp z]; exact .inr (List.mem_cons_self ..)
      · exact .inr (List.mem_cons_of_mem _ z)
theorem spl_count (c : Nat) (l : List Nat) : (spl [c] 0 [] l).length ≤ l.length + 1 := by
  have h := spl_sum c l []
  have k : ∀ ps : List (List Nat), ps.length ≤ (ps.map fun p => p.length + 1).sum := by
    intro ps
    induction ps with
    | nil => simp
    | cons a r ih => rw [List.map_cons, List.sum_cons, List.length_cons]; omega
  have := k (spl [c] 0 [] l)
  simp only [List.length_nil] at h
  omega
/-- the words of a text, lot by lot -/
def words (t : List Nat) : List (List (List Nat)) := (spl [124] 0 [] t).map (spl [32] 0 [])
theorem words_ne {t : List Nat} {ws : List (List Nat)} (h : ws ∈ words t) : ws ≠ [] := by
  obtain ⟨p, _, rfl⟩ := List.mem_map.mp h
  exact spl_ne 32 p []
theorem words_nil (t : List Nat) : words t ≠ [] := by
  unfold words
  intro h
  exact spl_ne 124 t [] (List.map_eq_nil_iff.mp h)
theorem words_count (t : List Nat) : (words t).flatten.length ≤ t.length + 1 := by
  have h := spl_sum 124 t []
  simp only [List.length_nil] at h
  unfold words
  rw [List.length_flatten, List.map_map]
  have k : ∀ ps : List (List Nat), (ps.map (List.length ∘ spl [32] 0 [])).sum ≤ (ps.map fun p => p.length + 1).sum := by
    intro ps
    induction ps with
    | nil => simp
    | cons a r ih =>
      have := spl_count 32 a
      rw [List.map_cons, List.sum_cons, List.map_cons, List.sum_cons]
      show (spl [32] 0 [] a).length + _ ≤ _
      omega
  have := k (spl [124] 0 [] t)
  omega
theorem words_asc {t : List Nat} (h : Asc t) {ws : List (List Nat)} {w : List Nat} (h1 : ws ∈ words t) (h2 : w ∈ ws) : Asc w := by
  obtain ⟨p, hp, rfl⟩ := List.mem_map.mp h1
  intro c hc
  rcases spl_mem 32 p [] w c h2 hc with z | z
  · cases z
  · rcases spl_mem 124 t [] p c hp z with z | z
    · cases z
    · exact h c z
/-! ### the plot that a word writes -/
def val (w : List Nat) : Nat := NumText.digitsVal w
theorem val_num (k : Nat) : val (numL k) = k := numL_val k
def plotOf (w : List Nat) : Int := if w = numL (val w) ∧ val w < 16 then (val w : Int) else -1
theorem plotOf_num {k : Nat} (h : k < 16) : plotOf (numL k) = (k : Int) := by
  unfold plotOf
  rw [val_num, if_pos ⟨rfl, h⟩]
theorem plotOf_big {k : Nat} (h : ¬ k < 16) : plotOf (numL k) = -1 := by
  unfold plotOf
  rw [val_num, if_neg fun z => h z.2]
theorem plotOf_none {w : List Nat} (h : w ≠ numL (val w)) : plotOf w = -1 := by
  unfold plotOf
  rw [if_neg fun z => h z.1]
theorem plotOf_pos {w : List Nat} (h : 0 ≤ plotOf w) : w = numL (val w) ∧ val w < 16 ∧ plotOf w = (val w : Int) := by
  unfold plotOf at h ⊢
  by_cases c : w = numL (val w) ∧ val w < 16
  · rw [if_pos c]; exact ⟨c.1, c.2, rfl⟩
  · rw [if_neg c] at h; omega
/-! ### plots that are a parting's -/
def okZ (n : Nat) (l : List Int) : Prop := (∀ z ∈ l, 0 ≤ z ∧ z < (n : Int)) ∧ l.Nodup
instance (n : Nat) (l : List Int) : Decidable (okZ n l) := by unfold okZ; exact inferInstance
theorem okZ_nil (n : Nat) : okZ n [] := ⟨fun _ h => (by cases h), List.nodup_nil⟩
theorem nodup_snoc {α : Type} {l : List α} {a : α} : (l ++ [a]).Nodup ↔ l.Nodup ∧ a ∉ l := by
  rw [List.nodup_append]
  constructor
  · rintro ⟨h1, _, h3⟩
    exact ⟨h1, fun h => h3 a h a (List.mem_singleton.mpr rfl) rfl⟩
  · rintro ⟨h1, h2⟩
    refine ⟨h1, by simp, fun x hx y hy e => ?_⟩
    rw [List.mem_singleton.mp hy] at e
    exact h2 (e ▸ hx)
theorem okZ_snoc {n : Nat} {l : List Int} {z : Int} : okZ n (l ++ [z]) ↔ okZ n l ∧ (0 ≤ z ∧ z < (n : Int)) ∧ z ∉ l := by
  unfold okZ
  rw [nodup_snoc]
  constructor
  · rintro ⟨h1, h2, h3⟩
    exact ⟨⟨fun y hy => h1 y (List.mem_append_left _ hy), h2⟩, h1 z (by simp), h3⟩
  · rintro ⟨⟨h1, h2⟩, h3, h4⟩
    refine ⟨fun y hy => ?_, ⟨h2, h4⟩⟩
    rcases List.mem_append.mp hy with q | q
    · exact h1 y q
    · rw [List.mem_singleton.mp q]; exact h3
theorem okZ_left {n : Nat} {l r : List Int} (h : okZ n (l ++ r)) : okZ n l :=
  ⟨fun z hz => h.1 z (List.mem_append_left _ hz), (List.nodup_append.mp h.2).1⟩
theorem nodup_le : ∀ (n : Nat) (l : List Int), okZ n l → l.length ≤ n
  | 0, l, h => by
    cases l with
    | nil => exact Nat.le_refl _
    | cons z r => have := h.1 z (List.mem_cons_self ..); omega
  | n + 1, l, h => by
    have h1 : okZ n (l.erase (n : Int)) := by
      refine ⟨fun z hz => ?_, h.2.erase _⟩
      have hz' := (List.Nodup.mem_erase_iff h.2).mp hz
      have := h.1 z hz'.2
      have : z ≠ (n : Int) := hz'.1
      omega
    have ih := nodup_le n _ h1
    have : l.length - 1 ≤ (l.erase (n : Int)).length := by
      rw [List.length_erase]
      split <;> omega
    omega
theorem okZ_all {n : Nat} {l : List Int} (h : okZ n l) (hl : l.length = n) {p : Nat} (hp : p < n) : (p : Int) ∈ l := by
  by_cases c : (p : Int) ∈ l
  · exact c
  · have h2 : okZ n (l ++ [(p : Int)]) := okZ_snoc.mpr ⟨h, by omega, c⟩
    have := nodup_le n _ h2
    rw [List.length_append, hl] at this
    simp only [List.length_cons, List.length_nil] at this
    omega
/-! ### sorted -/
theorem strict_of : ∀ {l : List Int}, l.Pairwise (· ≤ ·) → l.Nodup → l.Pairwise (· < ·)
  | [], _, _ => .nil
  | a :: r, h, hn => by
    rw [List.pairwise_cons] at h ⊢
    have hn' := List.nodup_cons.mp hn
    refine ⟨fun b hb => ?_, strict_of h.2 hn'.2⟩
    have := h.1 b hb
    have : a ≠ b := fun e => hn'.1 (e ▸ hb)
    omega
theorem strict_range : ∀ (l : List Int) (s : Int), l.Pairwise (· < ·) → (∀ x ∈ l, s ≤ x ∧ x < s + l.length) → l = (List.range l.length).map fun k : Nat => s + (k : Int)
  | [], _, _, _ => rfl
  | a :: r, s, h, hb => by
    rw [List.pairwise_cons] at h
    have ha := hb a (List.mem_cons_self ..)
    have ih := strict_range r (s + 1) h.2 fun x hx => by
      have h1 := h.1 x hx
      have h2 := hb x (List.mem_cons_of_mem _ hx)
      rw [List.length_cons] at h2
      omega
    have hs : a = s := by
      cases r with
      | nil =>
        simp only [List.length_cons, List.length_nil] at ha
        omega
      | cons b r' =>
        have e0 : b = s + 1 := by
          have := congrArg List.head? ih
          simp only [List.length_cons, List.range_succ_eq_map, List.map_cons, List.head?_cons] at this
          have := Option.some.inj this
          omega
        have := h.1 b (List.mem_cons_self ..)
        omega
    subst hs
    rw [List.length_cons, List.range_succ_eq_map, List.map_cons, List.map_map]
    refine congr (congrArg List.cons (by simp)) ?_
    refine ih.trans (List.map_congr_left fun k _ => ?_)
    show a + 1 + (k : Int) = a + ((k + 1 : Nat) : Int)
    omega
theorem sorted_ok {l l' : List Int} (hp : l'.Perm l) (hs : l'.Pairwise (· ≤ ·)) : l' = ((List.range l.length).map fun k : Nat => (k : Int)) ↔ okZ l.length l := by
  constructor
  · intro e
    have hn : l'.Nodup := by
      rw [e]
      refine List.Pairwise.map _ (fun a b hab => ?_) (List.nodup_range (n := l.length))
      omega
    refine ⟨fun z hz => ?_, hp.nodup_iff.mp hn⟩
    have hz' := hp.mem_iff.mpr hz
    rw [e] at hz'
    obtain ⟨k, hk, rfl⟩ := List.mem_map.mp hz'
    have := List.mem_range.mp hk
    omega
  · intro h
    have hn : l'.Nodup := hp.nodup_iff.mpr h.2
    have hl := hp.length_eq
    have e := strict_range l' 0 (strict_of hs hn) fun x hx => by
      have := h.1 x (hp.mem_iff.mp hx)
      rw [hl]
      omega
    rw [hl] at e
    rw [e]
    refine List.map_congr_left fun k _ => ?_
    omega
/-! ### which lot holds a plot -/
def lotIx (z : Int) : List (List Int) → Nat
  | [] => 0
  | l :: r => if z ∈ l then 0 else lotIx z r + 1
theorem lotIx_at {z : Int} : ∀ {L : List (List Int)} {i : Nat} {l : List Int}, L[i]? = some l → z ∈ l → z ∉ (L.take i).flatten → lotIx z L = i
  | [], i, l, h, _, _ => by simp at h
  | a :: r, 0, l, h, hz, _ => by
    have e : a = l := by simpa using h
    unfold lotIx
    rw [if_pos (by rw [e]; exact hz)]
  | a :: r, i + 1, l, h, hz, hn => by
    rw [List.take_succ_cons, List.flatten_cons, List.mem_append] at hn
    unfold lotIx
    rw [if_neg fun q => hn (.inl q), lotIx_at (i := i) (l := l) (by simpa using h) hz fun q => hn (.inr q)]
theorem lotIx_get {z : Int} : ∀ {L : List (List Int)}, z ∈ L.flatten → ∃ l, L[lotIx z L]? = some l ∧ z ∈ l
  | [], h => by simp at h
  | a :: r, h => by
    unfold lotIx
    by_cases c : z ∈ a
    · rw [if_pos c]; exact ⟨a, rfl, c⟩
    · rw [if_neg c]
      rw [List.flatten_cons, List.mem_append] at h
      obtain ⟨l, h1, h2⟩ := lotIx_get (h.resolve_left c)
      exact ⟨l, by simpa using h1, h2⟩
theorem not_before {z : Int} : ∀ {L : List (List Int)} {i : Nat} {l : List Int}, L.flatten.Nodup → L[i]? = some l → z ∈ l → z ∉ (L.take i).flatten
  | [], i, l, _, h, _ => by simp at h
  | a :: r, 0, l, _, _, _ => by simp
  | a :: r, i + 1, l, hn, h, hz => by
    rw [List.flatten_cons] at hn
    obtain ⟨h1, h2, h3⟩ := List.nodup_append.mp hn
    rw [List.take_succ_cons, List.flatten_cons, List.mem_append]
    have hr : r[i]? = some l := by simpa using h
    rintro (q | q)
    · exact h3 z q z (List.mem_flatten.mpr ⟨l, List.mem_of_getElem? hr, hz⟩) rfl
    · exact not_before h2 hr hz q
theorem lotIx_nd {z : Int} {L : List (List Int)} {i : Nat} {l : List Int} (hn : L.flatten.Nodup) (h : L[i]? = some l) (hz : z ∈ l) : lotIx z L = i :=
  lotIx_at h hz (not_before hn h hz)
def labels (L : List (List Int)) (n : Nat) : List Int := (List.range n).map fun p : Nat => ((lotIx (p : Int) L : Nat) : Int)
theorem labels_len (L : List (List Int)) (n : Nat) : (labels L n).length = n := by unfold labels; rw [List.length_map, List.length_range]
theorem labels_get {L : List (List Int)} {n p : Nat} (h : p < n) : (labels L n)[p]? = some ((lotIx (p : Int) L : Nat) : Int) := by
  unfold labels
  rw [List.getElem?_map, List.getElem?_range h]; rfl
def namesOf (L : List (List Int)) (n : Nat) : List Nat := canon (labels L n)
theorem namesOf_len (L : List (List Int)) (n : Nat) : (namesOf L n).length = n := by unfold namesOf; rw [canon_len, labels_len]
/-- the name of a plot is the least plot of its lot -/
theorem name_min {L : List (List Int)} (h : okZ L.flatten.length L.flatten) {i : Nat} {l : List Int} (hi : L[i]? = some l) {z m : Int} (hz : z ∈ l) (hm : m ∈ l) (hmin : ∀ y ∈ l, m ≤ y) :
    (namesOf L L.flatten.length)[z.toNat]? = some m.toNat := by
  have inL : ∀ {y : Int}, y ∈ l → y ∈ L.flatten := fun {y} hy => List.mem_flatten.mpr ⟨l, List.mem_of_getElem? hi, hy⟩
  have hz0 := h.1 z (inL hz)
  have hm0 := h.1 m (inL hm)
  have hzn : z.toNat < L.flatten.length := by omega
  have hmn : m.toNat < L.flatten.length := by omega
  have ez : ((z.toNat : Nat) : Int) = z := Int.toNat_of_nonneg hz0.1
  have em : ((m.toNat : Nat) : Int) = m := Int.toNat_of_nonneg hm0.1
  have lz := labels_get (L := L) hzn
  rw [ez, lotIx_nd h.2 hi hz] at lz
  unfold namesOf
  rw [canon_get lz]
  refine congrArg some (fix_is ?_ fun j hj q => ?_)
  · have lm := labels_get (L := L) hmn
    rw [em, lotIx_nd h.2 hi hm] at lm
    exact lm
  · have hjn : j < L.flatten.length := by omega
    rw [labels_get hjn] at q
    have e : lotIx (j : Int) L = i := by
      have := Option.some.inj q
      omega
    obtain ⟨l2, h1, h2⟩ := lotIx_get (okZ_all h rfl hjn)
    rw [e, hi] at h1
    have e2 : l = l2 := Option.some.inj h1
    have := hmin (j : Int) (e2 ▸ h2)
    omega
/-! ### the reading -/
def zW (t : List Nat) : List (List Int) := (words t).map fun ws => ws.map plotOf
def nW (t : List Nat) : Nat := (words t).flatten.length
theorem zW_flat (t : List Nat) : (zW t).flatten = (words t).flatten.map plotOf := by
  unfold zW
  rw [List.map_flatten]
theorem zW_len (t : List Nat) : (zW t).flatten.length = nW t := by rw [zW_flat, List.length_map]; rfl
def okT (t : List Nat) : Prop := nW t ≤ 16 ∧ okZ (nW t) (zW t).flatten
instance (t : List Nat) : Decidable (okT t) := by unfold okT; exact inferInstance
def nameT (t : List Nat) : List Nat := namesOf (zW t) (nW t)
def readL (t : List Nat) : Option (List Nat) := if okT t ∧ textL (nameT t) = t then some (nameT t) else none
theorem readL_some {t ns : List Nat} (h : readL t = some ns) : okT t ∧ textL ns = t ∧ ns = nameT t := by
  unfold readL at h
  by_cases c : okT t ∧ textL (nameT t) = t
  · rw [if_pos c] at h
    have e := Option.some.inj h
    exact ⟨c.1, by rw [← e]; exact c.2, e.symm⟩
  · rw [if_neg c] at h; cases h
theorem nm_name (t : List Nat) : Nm (nameT t) := nm_canon _
theorem nameT_len (t : List Nat) : (nameT t).length = nW t := namesOf_len _ _
theorem nW_pos (t : List Nat) : 1 ≤ nW t := by
  unfold nW
  cases h : words t with
  | nil => exact absurd h (words_nil t)
  | cons ws r =>
    have : ws ≠ [] := words_ne (t := t) (by rw [h]; exact List.mem_cons_self ..)
    rw [List.flatten_cons, List.length_append]
    have := List.length_pos_iff.mpr this
    omega
/-! ### the law's look at a word -/
theorem digit_iff : ∀ c : Nat, c < 128 → (Unicode.isDigit c = true ↔ 48 ≤ c ∧ c ≤ 57) := by decide +kernel
theorem isdigit_asc {w : List Nat} (h : Asc w) : Txt.isdigit (mk w) = true ↔ w ≠ [] ∧ NumText.AllDigits w := by
  unfold PySem.Txt.isdigit
  rw [Bool.and_eq_true, decide_eq_true_iff]
  have e1 : (mk w).length = w.length := by rw [len_tl]; rfl
  have e2 : (mk w).cps.all Unicode.isDigit = w.all Unicode.isDigit := by
    show w.toArray.all _ = _
    rw [List.all_toArray]
  rw [e1, e2, List.all_eq_true]
  constructor
  · rintro ⟨h1, h2⟩
    exact ⟨List.length_pos_iff.mp h1, fun c hc => (digit_iff c (h c hc)).mp (h2 c hc)⟩
  · rintro ⟨h1, h2⟩
    exact ⟨List.length_pos_iff.mpr h1, fun c hc => (digit_iff c (h c hc)).mpr (h2 c hc)⟩
/-- a word that the law takes -/
def wordOk (w : List Nat) : Prop := w = numL (val w) ∧ val w < 100
theorem plotOf_notOk {w : List Nat} (h : ¬ wordOk w) : plotOf w = -1 := by
  unfold plotOf
  rw [if_neg fun z => h ⟨z.1, by omega⟩]
theorem num_ok {k : Nat} (h : k < 100) : wordOk (numL k) := ⟨by rw [val_num], by rw [val_num]; exact h⟩
theorem wordOk_len {w : List Nat} (h : wordOk w) : w.length ≤ 2 := by
  rw [h.1]
  exact numL_len (k := 2) (by decide) (by have := h.2; omega)
theorem wordOk_dig {w : List Nat} (h : wordOk w) : w ≠ [] ∧ NumText.AllDigits w := by
  rw [h.1]
  exact ⟨numL_ne _, numL_digits _⟩
theorem val_small : ∀ {w : List Nat}, w.length ≤ 2 → NumText.AllDigits w → val w < 100
  | [], _, _ => by decide +kernel
  | [c], _, h => by
    have := h c (List.mem_singleton.mpr rfl)
    show 0 * 10 + (c - 48) < 100
    omega
  | [c, d], _, h => by
    have h1 := h c (List.mem_cons_self ..)
    have h2 := h d (List.mem_cons_of_mem _ (List.mem_singleton.mpr rfl))
    show (0 * 10 + (c - 48)) * 10 + (d - 48) < 100
    omega
  | _ :: _ :: _ :: _, h, _ => by simp at h
theorem int_of {w : List Nat} (h1 : w ≠ []) (h2 : NumText.AllDigits w) (h3 : w.length ≤ 2) : intText? (mk w) = some ((val w : Nat) : Int) :=
  intText_digits (x := mk w) h2 h1 (by rw [len_tl]; show w.length ≤ 4300; omega)
/-- the two readings of the plots part nowhere -/
theorem vals_ok {l : List (List Nat)} (n : Nat) (hn : n ≤ 16) (hw : ∀ w ∈ l, wordOk w) : okZ n (l.map fun w => ((val w : Nat) : Int)) ↔ okZ n (l.map plotOf) := by
  constructor
  · intro h
    have e : (l.map plotOf) = l.map fun w => ((val w : Nat) : Int) := List.map_congr_left fun w hw' => by
      have := h.1 _ (List.mem_map.mpr ⟨w, hw', rfl⟩)
      unfold plotOf
      rw [if_pos ⟨(hw w hw').1, by omega⟩]
    rw [e]; exact h
  · intro h
    have e : (l.map fun w => ((val w : Nat) : Int)) = l.map plotOf := List.map_congr_left fun w hw' => by
      have := h.1 _ (List.mem_map.mpr ⟨w, hw', rfl⟩)
      exact (plotOf_pos this.1).2.2.symm
    rw [e]; exact h
theorem vals_eq {l : List (List Nat)} {n : Nat} (h : okZ n (l.map plotOf)) : (l.map fun w => ((val w : Nat) : Int)) = l.map plotOf :=
  List.map_congr_left fun w hw' => (plotOf_pos (h.1 _ (List.mem_map.mpr ⟨w, hw', rfl⟩)).1).2.2.symm
end Kw

set_option maxHeartbeats 4000000
/-! K3: all partings of at most five plots. -/
namespace Kw
open PySem TL L2
def fits (at_ : Nat) (r : List Nat) : List Nat := (List.range (at_ + 1)).filter fun m => decide (m = at_ ∨ r[m]? = some m)
def grow (at_ : Nat) (rows : List (List Nat)) : List (List Nat) := rows.flatMap fun r => (fits at_ r).map fun m => r ++ [m]
def allN : Nat → List (List Nat)
  | 0 => [[]]
  | n + 1 => grow n (allN n)
def fineB (ns : List Nat) : Bool := decide (canon (zs ns) = ns) && decide (readL (textL ns) = some ns)
def ltB : List (List Nat) → Bool
  | a :: b :: r => HT.lexLt (zs a) (zs b) && ltB (b :: r)
  | _ => true
def allB (n c : Nat) : Bool := decide ((allN n).length = c) && ((allN n).all fun ns => decide (ns.length = n) && fineB ns) && ltB (allN n)
theorem all1 : allB 1 1 = true := by decide +kernel
theorem all2 : allB 2 2 = true := by decide +kernel
theorem all3 : allB 3 5 = true := by decide +kernel
theorem all4 : allB 4 15 = true := by decide +kernel
theorem all5 : allB 5 52 = true := by decide +kernel
def belln (n : Nat) : Nat := [0, 1, 2, 5, 15, 52].getD n 0
theorem all_of {n : Nat} (h1 : 1 ≤ n) (h5 : n ≤ 5) : allB n (belln n) = true := by
  match n, h1, h5 with
  | 1, _, _ => exact all1
  | 2, _, _ => exact all2
  | 3, _, _ => exact all3
  | 4, _, _ => exact all4
  | 5, _, _ => exact all5
theorem allN_count {n : Nat} (h1 : 1 ≤ n) (h5 : n ≤ 5) : (allN n).length = belln n := by
  have h := all_of h1 h5
  unfold allB at h
  rw [Bool.and_eq_true, Bool.and_eq_true] at h
  exact of_decide_eq_true h.1.1
theorem allN_fine {n : Nat} (h1 : 1 ≤ n) (h5 : n ≤ 5) {ns : List Nat} (hm : ns ∈ allN n) : ns.length = n ∧ Nm ns ∧ readL (textL ns) = some ns := by
  have h := all_of h1 h5
  unfold allB at h
  rw [Bool.and_eq_true, Bool.and_eq_true] at h
  have q := List.all_eq_true.mp h.1.2 ns hm
  rw [Bool.and_eq_true] at q
  have q2 := q.2
  unfold fineB at q2
  rw [Bool.and_eq_true] at q2
  exact ⟨of_decide_eq_true q.1, (of_decide_eq_true q2.1 : canon (zs ns) = ns), of_decide_eq_true q2.2⟩
theorem ltB_at : ∀ {l : List (List Nat)} {i : Nat} {a b : List Nat}, ltB l = true → l[i]? = some a → l[i + 1]? = some b → HT.lexLt (zs a) (zs b) = true
  | [], _, _, _, _, h, _ => by simp at h
  | [x], i, a, b, _, _, h => by simp at h
  | x :: y :: r, 0, a, b, h, ha, hb => by
    have e1 : x = a := by simpa using ha
    have e2 : y = b := by simpa using hb
    unfold ltB at h
    rw [Bool.and_eq_true] at h
    rw [← e1, ← e2]; exact h.1
  | x :: y :: r, i + 1, a, b, h, ha, hb => by
    unfold ltB at h
    rw [Bool.and_eq_true] at h
    exact ltB_at (l := y :: r) (i := i) h.2 (by simpa using ha) (by simpa using hb)
theorem allN_lt {n : Nat} (h1 : 1 ≤ n) (h5 : n ≤ 5) {i : Nat} {a b : List Nat} (ha : (allN n)[i]? = some a) (hb : (allN n)[i + 1]? = some b) : HT.lexLt (zs a) (zs b) = true := by
  have h := all_of h1 h5
  unfold allB at h
  rw [Bool.and_eq_true] at h
  exact ltB_at h.2 ha hb
end Kw

set_option maxHeartbeats 4000000
/-! R1: rules of our own: a list or a tuple walked; enumerate of a tuple. -/
namespace Kw
open PySem PySem.Spec PyProof.Rows L2
/-! ### enumerate(t), t a tuple -/
theorem meets_enumT (l : Addr) (items : Array Value) (n : Nat) (dct : Option Addr) (sl : Array (Option Value)) :
    Meets (Builtin.«enumerate.__new__» ⟨[.type "enumerate", .ref l], []⟩) (fun _ R s => s.heap.get? l = some { cls := .type "tuple", dict := dct, data := .seq items n, slots := sl } ∧
      R (.ok (.ret (.ref (s.heap.push { cls := .type "tuple_iterator", data := .fields #[.ref l, .int 0 0] }).objs.size)))
        { s with heap := (s.heap.push { cls := .type "tuple_iterator", data := .fields #[.ref l, .int 0 0] }).push { cls := .type "enumerate", data := .fields #[.none, .bool false, .ref s.heap.objs.size, rawInt 0, .none, .none] } }) :=
  .of_wp fun prog w A R s h => by
    obtain ⟨hp, g, d, tk, os⟩ := s
    obtain ⟨hl, h⟩ := h
    have sub1 := sub_enumerate
    have isT : Heap.IsTuple (Shared.heap ⟨hp, g, d, tk, os⟩) l items := ⟨_, hl, rfl, n, rfl⟩
    wp_walk using AutoSeq1.wpAny_loadPart' hl
    refine wpAny_stack_any fun st => wpAny_pure ?_
    split
    · rename_i c _ _ _ _ _
      by_cases q : (c == Value.type "enumerate") = true
      · rw [q]
        wp_walk using AutoSeq1.wpAny_loadPart' hl, wpAny_pyIter_tuple isT
        exact ⟨_, rfl, h⟩
      · rw [Bool.not_eq_true] at q
        rw [q]
        wp_walk using AutoSeq1.wpAny_loadPart' hl, wpAny_pyIter_tuple isT
        exact ⟨_, rfl, h⟩
    · wp_walk using AutoSeq1.wpAny_loadPart' hl, wpAny_pyIter_tuple isT
      exact ⟨_, rfl, h⟩
section
variable {prog : Program} {w : World} {A : Around} {E : Value → Shared → Prop} {s : Shared}
theorem call_enumT {l : Addr} {items : Array Value} {Q : Value → Shared → Prop} (hT : s.heap.IsTuple l items)
    (h : ∀ h', IsEnum h' (s.heap.objs.size + 1) s.heap.objs.size 0 .none → h'.IsTupleIter s.heap.objs.size l 0 → (∀ b o, s.heap.get? b = some o → h'.get? b = some o) → Q (.ref (s.heap.objs.size + 1)) { s with heap := h' }) :
    wpAny (model prog w) A (call (.type "enumerate") [.ref l]) Q E s := by
  obtain ⟨⟨c, dct, dt, sl⟩, hl, hc, n, hd⟩ := hT
  obtain rfl : c = .type "tuple" := hc
  obtain rfl : dt = .seq items n := hd
  refine callType_new F.called_enumerate (by decide) (F.typeCall_enumerate_1 _) (F.newCall_enumerate_1 _) (fun obj => F.args_object_init_2 obj _) F.entry_enumerate_new (meets_enumT l items n dct sl) ⟨hl, ?_⟩
  have z1 : (s.heap.push { cls := .type "tuple_iterator", data := .fields #[.ref l, .int 0 0] }).objs.size = s.heap.objs.size + 1 := Heap.size_push ..
  have at2 := Heap.get?_push_size (s.heap.push { cls := .type "tuple_iterator", data := .fields #[.ref l, .int 0 0] }) (o := { cls := .type "enumerate", data := .fields #[.none, .bool false, .ref s.heap.objs.size, rawInt 0, .none, .none] }) rfl
  rw [z1] at at2
  show _ ∧ _
  rw [z1]
  exact ⟨⟨_, at2, rfl⟩, h _ at2 ⟨_, Heap.get?_push_of_some _ (Heap.get?_push_size _ rfl), rfl, rfl⟩ fun b o x => Heap.get?_push_of_some _ (Heap.get?_push_of_some _ x)⟩
end
/-- the tuple at a, each item in a new pair -/
def IteT (K : PySem.W.Frag) (a : Addr) : It where
  go := fun i H => ∃ (xs : List V) (x : V), SqT K H a xs ∧ xs[i]? = some x
  yld := fun i H v H' => ∃ T x, v = .ref T ∧ H T = none ∧ H' = upd H T (.tup [.int (i : Nat), x]) ∧ ∀ xs, SqT K H a xs → xs[i]? = some x
  stop := fun i H => ∃ xs : List V, SqT K H a xs ∧ xs.length ≤ i
theorem turn_enumT {P : Program} {w : World} {K : PySem.W.Frag} {elts : List Expr} {kk : Nat} {tpos : Pos} (a e it : Addr) :
    Turn P w K (.Tuple elts kk tpos) (IteT K a) [e, it] e (fun i h => (∃ old, IsEnum h e it ((i : Nat) : Int) old) ∧ h.IsTupleIter it a i ∧ e ≠ it ∧ a ≠ it ∧ e ≠ a) where
  mem := List.mem_cons_self ..
  obj := by
    rintro i h ⟨⟨old, he⟩, ⟨o, ho, hc, hd⟩, _⟩ b hb
    rcases List.mem_cons.mp hb with z | z
    · subst z; exact ⟨_, he, fun v q => nomatch q⟩
    · rw [List.mem_singleton.mp z]
      exact ⟨o, ho, fun v q => by rw [hd] at q; cases q⟩
  keep := by
    rintro i h h' ⟨⟨old, he⟩, hi, hne⟩ k
    exact ⟨⟨old, k e (by simp) _ he⟩, hi.at fun o q => k it (by simp) o q, hne⟩
  item := by
    intro X hP hw hK hc i pins s σ H E I hf st hg
    subst hP hw hK
    obtain ⟨⟨old, he⟩, hit, hne, hai, hea⟩ := st
    obtain ⟨xs, x, hq, hx⟩ := hg
    obtain ⟨its, rv, p, hz⟩ := I.tuple hq
    obtain ⟨u, hu, ru⟩ := rv.get hx
    have hu' : its.toArray[i]? = some u := by simpa using hu
    have hi : i < its.toArray.size := (Array.getElem?_eq_some_iff.mp hu').1
    have hel := Heap.lt_size he
    have hil : it < s.heap.objs.size := by obtain ⟨_, q, _⟩ := hit; exact Heap.lt_size q
    have D := Draws.tuple (prog := X.prog) (w := X.w) (A := X.A.in1) (I.ok.hd hc) it a hai its.toArray
    refine wpAny_pyNext_enum_itemD D he ⟨hit, p⟩ hi hne (by simp [hne, hea]) fun y h' tk hy ho hst hT hsz hk => ?_
    have ey : y = u := Option.some.inj (hy.symm.trans hu')
    subst ey
    refine ⟨_, rfl, wpAny_letOwnedTupleGo_enum (s := { s with heap := h', toks := tk + 1 }) ho fun h'' he' sb => ?_⟩
    have T2 : h''.get? s.heap.objs.size = some { cls := .type "tuple", data := .seq #[.int i tk, y] } := (sb.2 _ (Nat.ne_of_gt hel)).trans hT
    have new : ObjOk X.prog X.w (upd H s.heap.objs.size (.tup [.int (i : Nat), x])) h'' s.heap.objs.size (.tup [.int (i : Nat), x]) :=
      ⟨by show 2 ≤ sizeLine; decide, [.int i tk, y], .cons ⟨_, rfl⟩ (.cons ru .nil), ⟨_, T2, rfl, _, rfl⟩⟩
    have kp : ∀ b ob, b ∉ [e, it] → s.heap.get? b = some ob → h''.get? b = some ob := fun b ob hb q => by
      have n1 : b ≠ e := fun z => hb (by rw [z]; exact List.mem_cons_self ..)
      have n2 : b ≠ it := fun z => hb (by rw [z]; simp)
      exact (sb.2 b n1).trans (hk b ob n1 n2 q)
    have I1 : Inv X pins σ (upd H s.heap.objs.size (.tup [.int (i : Nat), x])) { s with heap := h'', toks := tk + 1 } := I.turnedNew (ch := [e, it]) kp hf (Nat.le_refl _) new
    refine ⟨.ref s.heap.objs.size, _, I1, rfl, ⟨_, x, rfl, I.hok.fresh (Nat.le_refl _), rfl, fun ys hy => by rw [I.tuple_inj hy hq]; exact hx⟩, ⟨⟨y, ?_⟩, ?_, hne, hai, hea⟩, fun b hb => ?_⟩
    · have e1 : ((i + 1 : Nat) : Int) = (i : Int) + 1 := by omega
      rw [e1]; exact he'
    · exact hst.1.at fun o q => (sb.2 it (Ne.symm hne)).trans q
    · have hb' : b < s.heap.objs.size := by
        rcases List.mem_cons.mp hb with z | z
        · rw [z]; exact hel
        · rw [List.mem_singleton.mp z]; exact hil
      rw [upd_ne (Nat.ne_of_lt hb')]
      exact (hf b hb).1
  done := by
    intro X hP hw hK hc i pins s σ H E I hf st hg
    subst hP hw hK
    obtain ⟨⟨old, he⟩, hit, hne, hai, hea⟩ := st
    obtain ⟨xs, hq, hx⟩ := hg
    obtain ⟨its, rv, p, hz⟩ := I.tuple hq
    obtain ⟨f0, f1, f2, f3, f4, f5⟩ := hf it (by simp)
    have hl := rv.length
    have hle : its.toArray.size ≤ i := by simp; omega
    have D : Draws X.prog X.w X.A.in1 it [it, a] 0 (fun _ _ => True) (fun j h => h.IsTupleIter it a (i + j) ∧ h.IsTuple a its.toArray) :=
      { live := fun _ _ st => let ⟨o, ho, _⟩ := st.1; ⟨o, ho⟩
        frame := fun _ _ _ st hk => ⟨st.1.at fun o e => hk it (by simp) o e, st.2.at fun o e => hk a (by simp) o e⟩
        item := fun j s Q E hj st hQ => absurd hj (Nat.not_lt_zero _)
        done := fun s Q E st hE => wpAny_nextOf_tuple_end (I.ok.hd hc) st.1 st.2 (by simp; omega) hE }
    exact wpAny_pyNext_enum_endD D he ⟨hit, p⟩ fun h' eb => ⟨rfl, I.turned (t' := s.toks) (fun b o hb q => eb b o hb q) f0 f1 f3 f4 f5⟩
  self := fun A i s Q E st h => let ⟨⟨_, he⟩, _⟩ := st; wpAny_pyIter_enum he h
/-! ### a list (false) or a tuple (true) -/
def SqB (K : PySem.W.Frag) : Bool → Hp → Addr → List V → Prop
  | false => SqL K
  | true => SqT K
theorem SqT.same {K : PySem.W.Frag} {H H' : Hp} {a : Addr} {xs : List V} (e : Same H H') (h : SqT K H a xs) : SqT K H' a xs := by
  rcases h with (h | ⟨o, h⟩) | h
  · exact .inl (.inl (e _ _ h))
  · exact .inl (.inr ⟨o, e _ _ h⟩)
  · exact .inr h
theorem SqB.same {K : PySem.W.Frag} {H H' : Hp} {a : Addr} {xs : List V} (e : Same H H') : ∀ {b : Bool}, SqB K b H a xs → SqB K b H' a xs
  | false, h => Same.seq e h
  | true, h => SqT.same e h
theorem SqB.or {K : PySem.W.Frag} {H : Hp} {a : Addr} {xs : List V} : ∀ {b : Bool}, SqB K b H a xs → SqL K H a xs ∨ SqT K H a xs
  | false, h => .inl h
  | true, h => .inr h
def ItB (K : PySem.W.Frag) (a : Addr) : Bool → It
  | false => Itl K a
  | true => Itt K a
theorem walk_seqB {K : PySem.W.Frag} {a : Addr} {xs : List V} : ∀ b : Bool, Walk (ItB K a b) xs.length (fun H => SqB K b H a xs) (YAt xs)
  | false => walk_list
  | true => walk_tup
def IteB (K : PySem.W.Frag) (a : Addr) : Bool → It
  | false => Ite K a
  | true => IteT K a
theorem walk_enumT {K : PySem.W.Frag} {a : Addr} {xs : List V} : Walk (IteT K a) xs.length (fun H => SqT K H a xs) (YPair (fun i => some (.int (i : Nat))) (fun i => xs[i]?)) where
  goes := fun i _ hi q => ⟨xs, xs[i], q, by simp [hi]⟩
  stops := fun _ q => ⟨xs, q, Nat.le_refl _⟩
  yields := by
    rintro i H v H' _ q ⟨T, x, h1, h2, h3, h4⟩
    exact ⟨T, .int (i : Nat), x, h1, h2, h3, rfl, h4 xs q⟩
theorem walk_enumB {K : PySem.W.Frag} {a : Addr} {xs : List V} : ∀ b : Bool, Walk (IteB K a b) xs.length (fun H => SqB K b H a xs) (YPair (fun i => some (.int (i : Nat))) (fun i => xs[i]?))
  | false => walk_enum
  | true => walk_enumT
section
variable {X : Cx} {tg : Expr}
def iSeqB (K : PySem.W.Frag) (tl : TE) (b : Bool) : TI := fun σ H R => tl σ H fun x H1 => ∃ a, x = .ref a ∧ (∃ xs, SqB K b H1 a xs) ∧ R (ItB K a b) H1
theorem pi_seqB {l : Expr} {tl : TE} (b : Bool) (hl : PE X l tl) : PI X tg l (iSeqB X.K tl b) := by
  cases b with
  | false => exact pi_list hl
  | true => exact pi_tup hl
/-- enumerate of either -/
def iEnumT (K : PySem.W.Frag) (ta : TA) : TI := fun σ H R => ta σ H fun vs H1 => ∃ a xs, vs = [.ref a] ∧ SqT K H1 a xs ∧ R (IteT K a) H1
theorem pi_enumT {e : Expr} {ta : TA} {p pos tpos : Pos} {elts : List Expr} {kk : Nat} (hg : Gl X "enumerate") (hm : X.mg "enumerate" = none) (ha : PA X [e] ta) (hs : starEach [e] X.env = [(false, eval e X.env)] := by rfl) :
    PI X (.Tuple elts kk tpos) (.Call (.Name "enumerate" p) [e] [] pos) (iEnumT X.K ta) := by
  refine ⟨fun pins s σ H R I h => Call_ (ld_blt I hg hm boot_enumerate (PyProof.Rows.callWith_type1 (thn (ha.run pos pins s σ H _ I h) fun us s1 hv => ?_) hs rfl))⟩
  obtain ⟨vs, H1, I1, r1, a, xs, ex, hq, q⟩ := hv
  subst ex
  cases r1 with
  | cons r rr =>
    cases rr
    cases r
    obtain ⟨its, rv, p', hz⟩ := I1.tuple hq
    have la : a < s1.heap.objs.size := p'.lt
    have na : a ≠ s1.heap.objs.size ∧ s1.heap.objs.size + 1 ≠ a := ⟨Nat.ne_of_lt la, Nat.ne_of_gt (Nat.lt_succ_of_lt la)⟩
    refine call_enumT p' fun h' he hit hk => wpAny_pyIter_enum he ⟨s1.heap.objs.size + 1, [s1.heap.objs.size + 1, s1.heap.objs.size], _, _, H1, rfl, I1.kept (t' := s1.toks) hk, turn_enumT a _ _, ⟨⟨.none, he⟩, hit, Nat.succ_ne_self _, na.1, na.2⟩, fun b hb => ?_, q⟩
    have hle : s1.heap.objs.size ≤ b := by
      rcases List.mem_cons.mp hb with z | z
      · rw [z]; exact Nat.le_succ _
      · rw [List.mem_singleton.mp z]; exact Nat.le_refl _
    exact I1.fpOk hle (I1.hok.fresh hle)
def iEnumB (K : PySem.W.Frag) (ta : TA) (b : Bool) : TI := fun σ H R => ta σ H fun vs H1 => ∃ a xs, vs = [.ref a] ∧ SqB K b H1 a xs ∧ R (IteB K a b) H1
theorem pi_enumB {e : Expr} {ta : TA} {p pos tpos : Pos} {elts : List Expr} {kk : Nat} (b : Bool) (hg : Gl X "enumerate") (hm : X.mg "enumerate" = none) (ha : PA X [e] ta) (hs : starEach [e] X.env = [(false, eval e X.env)] := by rfl) :
    PI X (.Tuple elts kk tpos) (.Call (.Name "enumerate" p) [e] [] pos) (iEnumB X.K ta b) := by
  cases b with
  | false => exact pi_enum hg hm ha hs
  | true => exact pi_enumT hg hm ha hs
end
/-! ### heaps -/
theorem same_new {H : Hp} {p : Addr} {o : HO} (h : H p = none) : Same H (upd H p o) := fun b x e => by
  rw [upd_ne (ne_of_none e h)]
  exact e
/-- what stood is as it was, but at a -/
def But (a : Addr) (H H' : Hp) : Prop := ∀ b o, b ≠ a → H b = some o → H' b = some o
theorem But.refl (a : Addr) (H : Hp) : But a H H := fun _ _ _ e => e
theorem But.trans {a : Addr} {H H1 H2 : Hp} (x : But a H H1) (y : But a H1 H2) : But a H H2 := fun b o n e => y b o n (x b o n e)
theorem _root_.L2.Same.but {a : Addr} {H H' : Hp} (x : Same H H') : But a H H' := fun b o _ e => x b o e
theorem But.new {a p : Addr} {H H' : Hp} {o : HO} (x : But a H H') (h : H' p = none) : But a H (upd H' p o) := x.trans (same_new h).but
theorem _root_.L2.Same.new {H H' : Hp} {p : Addr} {o : HO} (x : Same H H') (h : H' p = none) : Same H (upd H' p o) := x.trans (same_new h)
/-- a new object is written -/
theorem _root_.L2.Same.own {H H' : Hp} {p : Addr} {o : HO} (x : Same H H') (h : H p = none) : Same H (upd H' p o) := fun b u e => by
  rw [upd_ne (ne_of_none e h)]
  exact x b u e
theorem But.own {a p : Addr} {H H' : Hp} {o : HO} (x : But a H H') (h : H p = none) : But a H (upd H' p o) := fun b u n e => by
  rw [upd_ne (ne_of_none e h)]
  exact x b u n e
theorem But.at {a : Addr} {H H' : Hp} {o : HO} (x : But a H H') : But a H (upd H' a o) := fun b u n e => by
  rw [upd_ne n]
  exact x b u n e
theorem yesT {σ : L2.St} {H : Hp} {A B : Hp → Prop} (h : A H) : tYes σ H fun b H3 => if b = true then A H3 else B H3 := by
  show (if true = true then A H else B H)
  exact iteT h
theorem int_at {ls : List Int} {i : Nat} {x : V} (h : (ls.map V.int)[i]? = some x) : ∃ z, ls[i]? = some z ∧ x = V.int z := by
  rw [List.getElem?_map] at h
  cases e : ls[i]? with
  | none => rw [e] at h; cases h
  | some z => rw [e] at h; exact ⟨z, rfl, (Option.some.inj h).symm⟩
end Kw

set_option maxHeartbeats 4000000
/-! T0: the text by places, the slots of each def. Printed by gen_t0.py. -/
namespace Kw
open PySem PySem.Spec PyProof.Rows L2
def top (i : Nat) : Stmt := PySem.Challenge.pw_crossmeans_k08_whole_written_partings.main.body.getD i (.Pass ⟨0, 0, 0, 0⟩)
abbrev s_isWhole : Stmt := top 17
abbrev n_isWhole : List Str := ["value"]
theorem sc_isWhole : FnScope n_isWhole ["value"] (defScope s_isWhole) := ⟨rfl, rfl, rfl, by decide +kernel, rfl, by decide +kernel, by decide +kernel⟩
abbrev s_isLabel : Stmt := top 18
abbrev n_isLabel : List Str := ["value"]
theorem sc_isLabel : FnScope n_isLabel ["value"] (defScope s_isLabel) := ⟨rfl, rfl, rfl, by decide +kernel, rfl, by decide +kernel, by decide +kernel⟩
abbrev s_isPlot : Stmt := top 19
abbrev n_isPlot : List Str := ["value", "plots"]
theorem sc_isPlot : FnScope n_isPlot ["value", "plots"] (defScope s_isPlot) := ⟨rfl, rfl, rfl, by decide +kernel, rfl, by decide +kernel, by decide +kernel⟩
abbrev s_needPlots : Stmt := top 20
abbrev n_needPlots : List Str := ["plots"]
theorem sc_needPlots : FnScope n_needPlots ["plots"] (defScope s_needPlots) := ⟨rfl, rfl, rfl, by decide +kernel, rfl, by decide +kernel, by decide +kernel⟩
abbrev s_needLabels : Stmt := top 22
abbrev n_needLabels : List Str := ["labels", "at", "label"]
theorem sc_needLabels : FnScope n_needLabels ["labels"] (defScope s_needLabels) := ⟨rfl, rfl, rfl, by decide +kernel, rfl, by decide +kernel, by decide +kernel⟩
abbrev s_leastPlots : Stmt := top 23
abbrev n_leastPlots : List Str := ["labels", "found", "at", "label"]
theorem sc_leastPlots : FnScope n_leastPlots ["labels"] (defScope s_leastPlots) := ⟨rfl, rfl, rfl, by decide +kernel, rfl, by decide +kernel, by decide +kernel⟩
abbrev s_namedLots : Stmt := top 24
abbrev n_namedLots : List Str := ["names", "name", "rows", "at", "row"]
theorem sc_namedLots : FnScope n_namedLots ["names"] (defScope s_namedLots) := ⟨rfl, rfl, rfl, by decide +kernel, rfl, by decide +kernel, by decide +kernel⟩
abbrev s_pInit : Stmt := inClass (top 26) 0
abbrev n_pInit : List Str := ["self", "labels"]
theorem sc_pInit : FnScope n_pInit ["self", "labels"] (defScope s_pInit) := ⟨rfl, rfl, rfl, by decide +kernel, rfl, by decide +kernel, by decide +kernel⟩
abbrev s_pPlots : Stmt := inClass (top 26) 1
abbrev n_pPlots : List Str := ["self"]
theorem sc_pPlots : FnScope n_pPlots ["self"] (defScope s_pPlots) := ⟨rfl, rfl, rfl, by decide +kernel, rfl, by decide +kernel, by decide +kernel⟩
abbrev s_pNames : Stmt := inClass (top 26) 3
abbrev n_pNames : List Str := ["self"]
theorem sc_pNames : FnScope n_pNames ["self"] (defScope s_pNames) := ⟨rfl, rfl, rfl, by decide +kernel, rfl, by decide +kernel, by decide +kernel⟩
abbrev s_pLots : Stmt := inClass (top 26) 4
abbrev n_pLots : List Str := ["self"]
theorem sc_pLots : FnScope n_pLots ["self"] (defScope s_pLots) := ⟨rfl, rfl, rfl, by decide +kernel, rfl, by decide +kernel, by decide +kernel⟩
abbrev s_fromLots : Stmt := inClass (top 26) 11
abbrev n_fromLots : List Str := ["cls", "plots", "lots", "labels", "at", "lot", "plot"]
theorem sc_fromLots : FnScope n_fromLots ["cls", "plots", "lots"] (defScope s_fromLots) := ⟨rfl, rfl, rfl, by decide +kernel, rfl, by decide +kernel, by decide +kernel⟩
abbrev s_partingText : Stmt := top 27
abbrev n_partingText : List Str := ["parting", "lot", "plot"]
theorem sc_partingText : FnScope n_partingText ["parting"] (defScope s_partingText) := ⟨rfl, rfl, rfl, by decide +kernel, rfl, by decide +kernel, by decide +kernel⟩
abbrev s_wordPlot : Stmt := top 28
abbrev n_wordPlot : List Str := ["word"]
theorem sc_wordPlot : FnScope n_wordPlot ["word"] (defScope s_wordPlot) := ⟨rfl, rfl, rfl, by decide +kernel, rfl, by decide +kernel, by decide +kernel⟩
abbrev s_readParting : Stmt := top 29
abbrev n_readParting : List Str := ["text", "lots", "plots", "parting", "part", "word", "lot"]
theorem sc_readParting : FnScope n_readParting ["text"] (defScope s_readParting) := ⟨rfl, rfl, rfl, by decide +kernel, rfl, by decide +kernel, by decide +kernel⟩
abbrev s_allPartings : Stmt := top 30
abbrev n_allPartings : List Str := ["plots", "rows", "at", "row", "name"]
theorem sc_allPartings : FnScope n_allPartings ["plots"] (defScope s_allPartings) := ⟨rfl, rfl, rfl, by decide +kernel, rfl, by decide +kernel, by decide +kernel⟩
abbrev s_store : Stmt := top 32
abbrev n_store : List Str := ["_law_script", "_law_cell", "_law_cells", "_law_seed"]
theorem sc_store : FnScope n_store ["_law_script"] (defScope s_store) := ⟨rfl, rfl, rfl, by decide +kernel, rfl, by decide +kernel, by decide +kernel⟩
abbrev s_mixed : Stmt := top 33
abbrev n_mixed : List Str := ["_law_number", "_law_turn", "_law_mix"]
theorem sc_mixed : FnScope n_mixed ["_law_number", "_law_turn"] (defScope s_mixed) := ⟨rfl, rfl, rfl, by decide +kernel, rfl, by decide +kernel, by decide +kernel⟩
abbrev s_take : Stmt := top 34
abbrev n_take : List Str := ["_law_store_here", "_law_many", "_law_cell", "_law_digit", "_law_number", "_law_mix", "_law_k"]
theorem sc_take : FnScope n_take ["_law_store_here", "_law_many"] (defScope s_take) := ⟨rfl, rfl, rfl, by decide +kernel, rfl, by decide +kernel, by decide +kernel⟩
abbrev s_once : Stmt := top 35
abbrev n_once : List Str := ["_law_store_here", "_law_many"]
theorem sc_once : FnScope n_once ["_law_store_here", "_law_many"] (defScope s_once) := ⟨rfl, rfl, rfl, by decide +kernel, rfl, by decide +kernel, by decide +kernel⟩
abbrev s_pick : Stmt := top 36
abbrev n_pick : List Str := ["_law_store_here", "_law_row"]
theorem sc_pick : FnScope n_pick ["_law_store_here", "_law_row"] (defScope s_pick) := ⟨rfl, rfl, rfl, by decide +kernel, rfl, by decide +kernel, by decide +kernel⟩
abbrev s_between : Stmt := top 37
abbrev n_between : List Str := ["_law_store_here", "_law_low", "_law_high"]
theorem sc_between : FnScope n_between ["_law_store_here", "_law_low", "_law_high"] (defScope s_between) := ⟨rfl, rfl, rfl, by decide +kernel, rfl, by decide +kernel, by decide +kernel⟩
abbrev s_sign : Stmt := top 38
abbrev n_sign : List Str := ["_law_store_here", "_law_signs"]
theorem sc_sign : FnScope n_sign ["_law_store_here"] (defScope s_sign) := ⟨rfl, rfl, rfl, by decide +kernel, rfl, by decide +kernel, by decide +kernel⟩
abbrev s_ltext : Stmt := top 39
abbrev n_ltext : List Str := ["_law_store_here", "_law_most", "_law_size", "_law_k"]
theorem sc_ltext : FnScope n_ltext ["_law_store_here", "_law_most"] (defScope s_ltext) := ⟨rfl, rfl, rfl, by decide +kernel, rfl, by decide +kernel, by decide +kernel⟩
abbrev s_bent : Stmt := top 40
abbrev n_bent : List Str := ["_law_store_here", "_law_text_here", "_law_menu", "_law_sign_here", "_law_size", "_law_kind", "_law_at"]
theorem sc_bent : FnScope n_bent ["_law_store_here", "_law_text_here", "_law_menu"] (defScope s_bent) := ⟨rfl, rfl, rfl, by decide +kernel, rfl, by decide +kernel, by decide +kernel⟩
abbrev s_same : Stmt := top 41
abbrev n_same : List Str := ["_law_left", "_law_right", "_law_k"]
theorem sc_same : FnScope n_same ["_law_left", "_law_right"] (defScope s_same) := ⟨rfl, rfl, rfl, by decide +kernel, rfl, by decide +kernel, by decide +kernel⟩
abbrev s_iswhole : Stmt := top 42
abbrev n_iswhole : List Str := ["_law_value"]
theorem sc_iswhole : FnScope n_iswhole ["_law_value"] (defScope s_iswhole) := ⟨rfl, rfl, rfl, by decide +kernel, rfl, by decide +kernel, by decide +kernel⟩
abbrev s_canon : Stmt := top 43
abbrev n_canon : List Str := ["_law_labels", "_law_names", "_law_k", "_law_at", "_law_j"]
theorem sc_canon : FnScope n_canon ["_law_labels"] (defScope s_canon) := ⟨rfl, rfl, rfl, by decide +kernel, rfl, by decide +kernel, by decide +kernel⟩
abbrev s_lparting : Stmt := top 44
abbrev n_lparting : List Str := ["_law_store_here", "_law_plots", "_law_kind", "_law_size", "_law_k"]
theorem sc_lparting : FnScope n_lparting ["_law_store_here", "_law_plots"] (defScope s_lparting) := ⟨rfl, rfl, rfl, by decide +kernel, rfl, by decide +kernel, by decide +kernel⟩
abbrev s_llots : Stmt := top 45
abbrev n_llots : List Str := ["_law_names", "_law_lots_here", "_law_name", "_law_k"]
theorem sc_llots : FnScope n_llots ["_law_names"] (defScope s_llots) := ⟨rfl, rfl, rfl, by decide +kernel, rfl, by decide +kernel, by decide +kernel⟩
abbrev s_ptext : Stmt := top 46
abbrev n_ptext : List Str := ["_law_names", "_law_lot", "_law_k"]
theorem sc_ptext : FnScope n_ptext ["_law_names"] (defScope s_ptext) := ⟨rfl, rfl, rfl, by decide +kernel, rfl, by decide +kernel, by decide +kernel⟩
abbrev s_badtext : Stmt := top 47
abbrev n_badtext : List Str := ["_law_store_here", "_law_names", "_law_good", "_law_lots_here", "_law_few"]
theorem sc_badtext : FnScope n_badtext ["_law_store_here", "_law_names"] (defScope s_badtext) := ⟨rfl, rfl, rfl, by decide +kernel, rfl, by decide +kernel, by decide +kernel⟩
abbrev s_reads : Stmt := top 48
abbrev n_reads : List Str := ["_law_text_here", "_law_lot", "_law_lots_here", "_law_plots", "_law_word", "_law_names", "_law_plot", "_law_other"]
theorem sc_reads : FnScope n_reads ["_law_text_here"] (defScope s_reads) := ⟨rfl, rfl, rfl, by decide +kernel, rfl, by decide +kernel, by decide +kernel⟩
abbrev s_texts : Stmt := top 49
abbrev n_texts : List Str := ["_law_store_here", "_law_one", "_law_two", "_law_good", "_law_other", "_law_menu", "_law_texts_here", "_law_k"]
theorem sc_texts : FnScope n_texts ["_law_store_here", "_law_one", "_law_two"] (defScope s_texts) := ⟨rfl, rfl, rfl, by decide +kernel, rfl, by decide +kernel, by decide +kernel⟩
abbrev s_refusal : Stmt := top 50
abbrev n_refusal : List Str := ["_law_error", "_law_found"]
theorem sc_refusal : FnScope n_refusal ["_law_error"] (defScope s_refusal) := ⟨rfl, rfl, rfl, by decide +kernel, rfl, by decide +kernel, by decide +kernel⟩
abbrev s_read : Stmt := top 51
abbrev n_read : List Str := ["_law_text_here", "_law_parting_here", "e"]
theorem sc_read : FnScope n_read ["_law_text_here"] (defScope s_read) := ⟨rfl, rfl, rfl, by decide +kernel, rfl, by decide +kernel, by decide +kernel⟩
abbrev s_listed : Stmt := top 52
abbrev n_listed : List Str := ["_law_counted", "_law_told", "e"]
theorem sc_listed : FnScope n_listed ["_law_counted"] (defScope s_listed) := ⟨rfl, rfl, rfl, by decide +kernel, rfl, by decide +kernel, by decide +kernel⟩
abbrev s_isparting : Stmt := top 53
abbrev n_isparting : List Str := ["_law_parting_here", "_law_names"]
theorem sc_isparting : FnScope n_isparting ["_law_parting_here", "_law_names"] (defScope s_isparting) := ⟨rfl, rfl, rfl, by decide +kernel, rfl, by decide +kernel, by decide +kernel⟩
abbrev s_readsright : Stmt := top 54
abbrev n_readsright : List Str := ["_law_texts_here", "_law_text_here", "_law_names", "_law_told"]
theorem sc_readsright : FnScope n_readsright ["_law_texts_here"] (defScope s_readsright) := ⟨rfl, rfl, rfl, by decide +kernel, rfl, by decide +kernel, by decide +kernel⟩
abbrev s_isrow : Stmt := top 55
abbrev n_isrow : List Str := ["_law_names", "_law_plots", "_law_k"]
theorem sc_isrow : FnScope n_isrow ["_law_names", "_law_plots"] (defScope s_isrow) := ⟨rfl, rfl, rfl, by decide +kernel, rfl, by decide +kernel, by decide +kernel⟩
abbrev s_isall : Stmt := top 56
abbrev n_isall : List Str := ["_law_told", "_law_plots", "_law_last", "_law_parting_here", "_law_back"]
theorem sc_isall : FnScope n_isall ["_law_told", "_law_plots"] (defScope s_isall) := ⟨rfl, rfl, rfl, by decide +kernel, rfl, by decide +kernel, by decide +kernel⟩
abbrev s_law : Stmt := top 57
abbrev n_law : List Str := ["_law_script", "_law_store_here", "_law_one", "_law_two", "_law_texts_here", "_law_plots", "_law_many", "_law_wrong", "_law_first", "_law_second", "_law_k", "_law_told", "_law_row"]
theorem sc_law : FnScope n_law ["_law_script"] (defScope s_law) := ⟨rfl, rfl, rfl, by decide +kernel, rfl, by decide +kernel, by decide +kernel⟩
end Kw

set_option maxHeartbeats 4000000
/-! U: rules turned so that they stand within a comprehension (K told). -/
namespace Kw
open PySem PySem.Spec PyProof.Rows L2
section
variable {X : Cx}
def rTup (K : PySem.W.Frag) : List V → Hp → VK → Prop := fun xs H Q => ∃ p ys, xs = [.ref p] ∧ ((SqL K H p ys ∧ ∀ l, H l = none → Q (.ref l) (upd H l (.tup ys))) ∨ (SqT K H p ys ∧ Q (.ref p) H))
theorem cTup (K : PySem.W.Frag) (h : X.K = K := by rfl) : CallR X (.type "tuple") (rTup K) := by subst h; exact call_tuple_of
def tTru (K : PySem.W.Frag) (ta : TE) : TT := fun σ H Q => ta σ H fun x H' => ∃ k, TruV K x H' k ∧ Q k H'
theorem pt_tru (K : PySem.W.Frag) {a : Expr} {ta : TE} (ha : PE X a ta) (h : X.K = K := by rfl) (he : ∀ whole, isTrue a X.env whole = (do let v ← whole; standAt a.pos; holding [v] (truthy v)) := by intro _; rfl) : PT X a (tTru K ta) := by subst h; exact pt_truth ha he
theorem ixL (K : PySem.W.Frag) (h : X.K = K := by rfl) : IxR X (rIxL K) := by subst h; exact ix_list
theorem ixT (K : PySem.W.Frag) (h : X.K = K := by rfl) : IxR X (rIxT K) := by subst h; exact ix_tup
def rLenQ (K : PySem.W.Frag) : List V → Hp → VK → Prop := fun xs H Q => ∃ p ys, xs = [.ref p] ∧ (SqL K H p ys ∨ SqT K H p ys) ∧ Q (.int ys.length) H
theorem cLen (K : PySem.W.Frag) (h : X.K = K := by rfl) : CallR X (.builtin "len") (rLenQ K) := by subst h; exact call_len_seq
theorem piL (K : PySem.W.Frag) {tg e : Expr} {te : TE} (he : PE X e te) (h : X.K = K := by rfl) : PI X tg e (iList K te) := by subst h; exact pi_list he
theorem piT (K : PySem.W.Frag) {tg e : Expr} {te : TE} (he : PE X e te) (h : X.K = K := by rfl) : PI X tg e (iTup K te) := by subst h; exact pi_tup he
def rJoin (K : PySem.W.Frag) : V → List V → Hp → VK → Prop := fun x xs H Q => ∃ a p, ∃ ys : List Str, x = .str a ∧ xs = [.ref p] ∧ (SqL K H p (ys.map V.str) ∨ SqT K H p (ys.map V.str)) ∧
    (ys.map (·.length)).sum + ys.length * a.length ≤ 16777216 ∧ Q (.str (Txt.join a ys)) H
theorem pJoin (K : PySem.W.Frag) {o e : Expr} {to te : TE} {apos pos : Pos} (ho : PE X o to) (he : PE X e te) (h : X.K = K := by rfl) (hs : starEach [e] X.env = [(false, eval e X.env)] := by rfl) (hbase : attributeBase o "join" X.env (eval o X.env) = eval o X.env := by rfl) (hline : (apos.endLine == pos.line) = true := by rfl) :
    PE X (.Call (.Attribute o "join" apos) [e] [] pos) (tM1 (rJoin K) to te) := by subst h; exact pe_join ho he hs hbase hline
def rCatK (K : PySem.W.Frag) : R2 := rCatA K
theorem opCat (K : PySem.W.Frag) (h : X.K = K := by rfl) : OpR X (binaryOp .Add) (rCatA K) := by subst h; exact op_catA
end
/-- a walk of a comprehension's part, any body -/
theorem it_gen {J : It} {n : Nat} {G : Hp → Prop} {Y : Nat → Hp → V → Hp → Prop} (w : Walk J n G Y) {H0 : Hp} {Qd : Hp → Prop} {Bd : V → Hp → (Hp → Prop) → Prop} (Pv : Nat → Hp → Prop) (h0 : Pv 0 H0) (hG : ∀ i H, i ≤ n → Pv i H → G H)
    (hs : ∀ i x H H', i < n → Pv i H → Y i H x H' → Bd x H' (Pv (i + 1))) (hd : ∀ H, Pv n H → Qd H) :
    ∃ W : Nat → Nat → Hp → Prop, (∃ m, W 0 m H0) ∧ ∀ i m H, W i m H →
      (J.stop i H ∧ Qd H) ∨ (J.go i H ∧ ∃ Nx : Hp → Prop, (∀ H', Nx H' → ∃ m', m' < m ∧ W (i + 1) m' H') ∧ ∀ x H', J.yld i H x H' → Bd x H' Nx) := by
  refine ⟨fun i m H => m = n - i ∧ i ≤ n ∧ Pv i H, ⟨n, by simp, Nat.zero_le _, h0⟩, ?_⟩
  rintro i m H ⟨rfl, hi, p⟩
  have q := hG i H hi p
  by_cases hlt : i < n
  · exact .inr ⟨w.goes i H hlt q, Pv (i + 1), fun H' p' => ⟨n - (i + 1), by omega, rfl, hlt, p'⟩, fun x H' y => hs i x H H' hlt p (w.yields i H x H' hlt q y)⟩
  · have e : i = n := by omega
    subst e
    exact .inl ⟨w.stops H q, hd H p⟩
end Kw

set_option maxHeartbeats 4000000
/-! W1: small checks; need_plots, need_labels, least_plots, named_lots. -/
namespace Kw
open PySem PySem.Spec PyProof.Rows L2
open C8 (Cal)
/-- the built-ins that the text has not written over -/
structure Bl (mg : Str → Option Value) : Prop where
  isi : mg "isinstance" = none
  int : mg "int" = none
  bool : mg "bool" = none
  str : mg "str" = none
  tuple : mg "tuple" = none
  list : mg "list" = none
  len : mg "len" = none
  enum : mg "enumerate" = none
  range : mg "range" = none
  abs : mg "abs" = none
  min : mg "min" = none
  sum : mg "sum" = none
  sorted : mg "sorted" = none
  ve : mg "ValueError" = none
  super : mg "super" = none
theorem cal_mk {P : Program} {w : World} {K : PySem.W.Frag} {mg : Str → Option Value} {base : Heap} {k : Nat} {x : Str} {st : Stmt} {f : Addr} {fd : FuncData} {ps : List Str} {sp : Sp} (F : L2.Fun K x x st f fd) (mgf : mg x = some (.ref f)) (b : Binds K fd ps [])
    (ok : FnOk P w K mg base L2.CX0 k f fd ps sp) : Cal P w K mg base k x sp [] := ⟨f, fd, ps, [], ok, mgf, F.kp, b, .nil⟩
theorem boot_isi : bootBuiltins "isinstance" = some (.builtin "isinstance") := by decide +kernel
theorem boot_ty_int : bootBuiltins "int" = some (.type "int") := by decide +kernel
theorem boot_ty_bool : bootBuiltins "bool" = some (.type "bool") := by decide +kernel
theorem boot_ty_str : bootBuiltins "str" = some (.type "str") := by decide +kernel
theorem boot_ty_tuple : bootBuiltins "tuple" = some (.type "tuple") := by decide +kernel
theorem boot_ty_list : bootBuiltins "list" = some (.type "list") := by decide +kernel
theorem boot_VE : bootBuiltins "ValueError" = some (.type "ValueError") := by decide +kernel
theorem rty (n : String) : L2.RelV (.ty n) (.type n) := rfl
theorem kit_int_int (K : PySem.W.Frag) : PySem.W.kitOne K (.type "int") (.type "int") = some true := kit_ty (by decide +kernel)
theorem kit_int_bool (K : PySem.W.Frag) : PySem.W.kitOne K (.type "int") (.type "bool") = some false := kit_ty (by decide +kernel)
/-- a part that is never asked -/
theorem PE_any {X : Cx} {e : Expr} : PE X e (fun _ _ _ => False) := ⟨fun _ _ _ _ _ _ h => h.elim⟩
theorem PT_any {X : Cx} {e : Expr} : PT X e (fun _ _ _ => False) := ⟨fun _ _ _ _ _ _ h => h.elim⟩
section
variable {P : Program} {w : World} {K : PySem.W.Frag} {mg : Str → Option Value} {base : Heap}
/-! ### is_whole, is_label, is_plot (of ints) -/
def spWhole : Sp := fun vs H Q _ => ∃ i : Int, vs = [.int i] ∧ Q (.bl true) H
theorem ok_isWhole {f : Addr} {fd : FuncData} {k : Nat} (B : Bl mg) (F : L2.Fun K "is_whole" "is_whole" s_isWhole f fd) : FnOk P w K mg base L2.CX0 (k + 1) f fd ["value"] spWhole := by
  refine F.ok sc_isWhole (fun vs H Q E h => ?_) (fun cdv A outer s H vs Q E hr h => ?_)
  · obtain ⟨i, rfl, _⟩ := h
    rfl
  · obtain ⟨i, rfl, q⟩ := h
    refine ⟨_, pss_one (ps_ret (pe_and (pe_callB call_isi rfl B.isi boot_isi (pa_cons (pv 0) (pa_cons (pe_bltn rfl B.int boot_ty_int (rty _)) pa_nil)))
      (pe_one (pe_not (pe_callB call_isi rfl B.isi boot_isi (pa_cons (pv 0) (pa_cons (pe_bltn rfl B.bool boot_ty_bool (rty _)) pa_nil))))))), ?_⟩
    refine ⟨.int i, rfl, .int i, .ty "int", .type "int", .type "int", true, rfl, .ty _, .base (.int i), kit_int_int K, true, rfl, iteT ?_⟩
    exact ⟨.int i, rfl, .int i, .ty "bool", .type "int", .type "bool", false, rfl, .ty _, .base (.int i), kit_int_bool K, false, rfl, q⟩
/-- is_label, of an int -/
theorem ok_isLabel {f : Addr} {fd : FuncData} {k : Nat} (cW : Cal P w K mg base 1 "is_whole" spWhole []) (F : L2.Fun K "is_label" "is_label" s_isLabel f fd) : FnOk P w K mg base L2.CX0 (k + 2) f fd ["value"] spWhole := by
  refine F.ok sc_isLabel (fun vs H Q E h => ?_) (fun cdv A outer s H vs Q E hr h => ?_)
  · obtain ⟨i, rfl, _⟩ := h
    rfl
  · obtain ⟨i, rfl, q⟩ := h
    refine ⟨_, pss_one (ps_ret (pe_or (C8.pe_c cW hr (by omega) rfl (pa_cons (pv 0) pa_nil)) (pe_one PE_any))), ?_⟩
    exact ⟨.int i, rfl, i, rfl, true, rfl, iteT q⟩
/-- is_plot, of an int -/
def spPlot : Sp := fun vs H Q _ => ∃ i n : Int, vs = [.int i, .int n] ∧ Q (.bl (decide (0 ≤ i) && decide (i < n))) H
theorem ok_isPlot {f : Addr} {fd : FuncData} {k : Nat} (cW : Cal P w K mg base 1 "is_whole" spWhole []) (F : L2.Fun K "is_plot" "is_plot" s_isPlot f fd) : FnOk P w K mg base L2.CX0 (k + 2) f fd ["value", "plots"] spPlot := by
  refine F.ok sc_isPlot (fun vs H Q E h => ?_) (fun cdv A outer s H vs Q E hr h => ?_)
  · obtain ⟨i, n, rfl, _⟩ := h
    rfl
  · obtain ⟨i, n, rfl, q⟩ := h
    refine ⟨_, pss_one (ps_ret (pe_and (C8.pe_c cW hr (by omega) rfl (pa_cons (pv 0) pa_nil)) (pe_one (pe_chain op_le op_lt pe_int (pv 0) (pv 1))))), ?_⟩
    refine ⟨.int i, rfl, i, rfl, true, rfl, iteT ⟨.int i, rfl, 0, i, rfl, rfl, _, rfl, ?_⟩⟩
    by_cases c : 0 ≤ i
    · rw [decide_eq_true c, Bool.true_and] at q
      rw [decide_eq_true c]
      exact iteT ⟨.int n, rfl, i, n, rfl, rfl, q⟩
    · rw [decide_eq_false c, Bool.false_and] at q
      rw [decide_eq_false c]
      exact iteF q
end
end Kw

set_option maxHeartbeats 4000000
/-! W2: need_plots (no error), need_labels, least_plots. -/
namespace Kw
open PySem PySem.Spec PyProof.Rows L2
open C8 (Cal)
/-- a plot as a value -/
abbrev nv (k : Nat) : V := .int (k : Int)
theorem line_small {n : Nat} (h : n ≤ 16000000) : n < sizeLine := Nat.lt_of_le_of_lt h (by decide)
section
variable {P : Program} {w : World} {K : PySem.W.Frag} {mg : Str → Option Value} {base : Heap}
/-! ### need_plots, where nothing is raised -/
def spNeed0 : Sp := fun vs H Q _ => ∃ n : Int, vs = [.int n] ∧ 1 ≤ n ∧ n ≤ 16 ∧ Q .non H
theorem ok_need0 {f : Addr} {fd : FuncData} {k : Nat} {t : Tok} (mp : mg "MOST_PLOTS" = some (.int 16 t)) (F : L2.Fun K "need_plots" "need_plots" s_needPlots f fd) : FnOk P w K mg base L2.CX0 (k + 1) f fd ["plots"] spNeed0 := by
  refine F.ok sc_needPlots (fun vs H Q E h => ?_) (fun cdv A outer s H vs Q E hr h => ?_)
  · obtain ⟨n, rfl, _⟩ := h
    rfl
  · obtain ⟨n, rfl, h1, h2, q⟩ := h
    refine ⟨_, pss_cons (ps_if (pt_cmpR op_lt (pv 0) pe_int (nomark _)) pss_never pss_nil)
      (pss_one (ps_if (pt_cmpR op_gt (pv 0) (pe_glob (v := .int 16) rfl mp ⟨_, rfl⟩) (nomark _)) pss_never pss_nil)), ?_⟩
    refine ⟨.int n, rfl, n, 1, rfl, rfl, _, rfl, ?_⟩
    rw [decide_eq_false (by omega)]
    refine iteF ⟨.int n, rfl, n, 16, rfl, rfl, _, rfl, ?_⟩
    rw [decide_eq_false (by omega)]
    exact iteF q
/-! ### need_labels -/
def spNeedL (K : PySem.W.Frag) : Sp := fun vs H Q _ => ∃ (b : Bool) (a : Addr) (ls : List Int), vs = [.ref a] ∧ SqB K b H a (ls.map V.int) ∧ 1 ≤ ls.length ∧ ls.length ≤ 16 ∧ ∀ H', Same H H' → Q .non H'
theorem ok_needL {f : Addr} {fd : FuncData} {k : Nat} (B : Bl mg) (cN : Cal P w K mg base 1 "need_plots" spNeed0 []) (cL : Cal P w K mg base 2 "is_label" spWhole []) (F : L2.Fun K "need_labels" "need_labels" s_needLabels f fd) :
    FnOk P w K mg base L2.CX0 (k + 3) f fd ["labels"] (spNeedL K) := by
  refine F.ok sc_needLabels (fun vs H Q E h => ?_) (fun cdv A outer s H vs Q E hr h => ?_)
  · obtain ⟨b, a, ls, rfl, _⟩ := h
    rfl
  · obtain ⟨b, a, ls, rfl, hS, h1, h2, q⟩ := h
    refine ⟨_, pss_cons (ps_expr (C8.pe_c cN hr (by omega) rfl (pa_cons (pe_callB call_len_seq (by rfl) B.len boot_len (pa_cons (pv 0) pa_nil)) pa_nil)))
      (pss_one (ps_for PassesOwn.never rfl (pi_enumB b rfl B.enum (pa_cons (pv 0) pa_nil))
        (pg_tup rfl (pgs_cons (pg_name (i := 1) sc_needLabels.nd rfl (.inl rfl)) (pgs_cons (pg_name (i := 2) sc_needLabels.nd rfl (.inl rfl)) pgs_nil)))
        (pss_one (ps_if (pt_not (pt_val (C8.pe_c cL hr (by omega) rfl (pa_cons (pv 2) pa_nil)))) pss_never pss_nil)))), ?_⟩
    refine ⟨.ref a, rfl, a, ls.map V.int, rfl, hS.or, _, rfl, by rw [List.length_map]; omega, by rw [List.length_map]; omega, ?_⟩
    refine ⟨.ref a, rfl, a, ls.map V.int, rfl, hS, ?_⟩
    refine for_it (walk_enumB b) (fun i σ H3 => ∃ y1 y2, σ = [some (.ref a), y1, y2] ∧ Same H H3) ⟨none, none, rfl, Same.refl H⟩ (fun i σ H3 _ ⟨_, _, _, s⟩ => hS.same s) ?_ ?_
    · rintro i x σ H3 H4 hi ⟨y1, y2, rfl, sm⟩ ⟨T, x1, x2, rfl, nT, rfl, e1, e2⟩
      obtain ⟨z, hz, rfl⟩ := int_at (show (ls.map V.int)[i]? = some x2 from e2)
      refine ⟨T, [x1, .int z], rfl, .inl (.inl upd_same), rfl, x1, [.int z], rfl, .int z, [], rfl, rfl, ?_⟩
      exact ⟨.int z, rfl, z, rfl, true, rfl, iteF ⟨some x1, some (.int z), rfl, sm.new nT⟩⟩
    · rintro σ H3 ⟨y1, y2, rfl, sm⟩
      exact q H3 sm
/-! ### least_plots -/
def spLeast (K : PySem.W.Frag) : Sp := fun vs H Q _ => ∃ (b : Bool) (a : Addr) (ls : List Int), vs = [.ref a] ∧ SqB K b H a (ls.map V.int) ∧ ls.length ≤ 16 ∧ ∀ H' t, Same H H' → H t = none → H' t = some (.tup ((canon ls).map nv)) → Q (.ref t) H'
theorem ok_least {f : Addr} {fd : FuncData} {k : Nat} (B : Bl mg) (F : L2.Fun K "least_plots" "least_plots" s_leastPlots f fd) : FnOk P w K mg base L2.CX0 (k + 1) f fd ["labels"] (spLeast K) := by
  refine F.ok sc_leastPlots (fun vs H Q E h => ?_) (fun cdv A outer s H vs Q E hr h => ?_)
  · obtain ⟨b, a, ls, rfl, _⟩ := h
    rfl
  · obtain ⟨b, a, ls, rfl, hS, hl, q⟩ := h
    have hu := hu_of hr
    refine ⟨_, pss_cons (ps_set (i := 1) sc_leastPlots.nd rfl (Or.inr rfl) pe_dnewK)
      (pss_cons (ps_for PassesOwn.never rfl (pi_enumB b rfl B.enum (pa_cons (pv 0) pa_nil))
        (pg_tup rfl (pgs_cons (pg_name (i := 2) sc_leastPlots.nd rfl (.inl rfl)) (pgs_cons (pg_name (i := 3) sc_leastPlots.nd rfl (.inl rfl)) pgs_nil)))
        (pss_one (ps_if (pt_cmp (pc_dnotin hu (pv 3) (pv 1))) (pss_one (ps_dput hu (pv 1) (pv 3) (pv 2) rfl)) pss_nil)))
      (pss_one (ps_ret (pe_callTy call_tuple_of rfl B.tuple boot_ty_tuple (pa_cons (pe_lc (own := [("label", 3)]) (g := gName 3) (tt := tYes) rfl sc_leastPlots.nd (pi_seqB b (pv 0))
        (blkOk_by (N := n_leastPlots) (sc := defScope s_leastPlots) (by decide +kernel)) (fun _ _ _ _ _ => pg_name (i := 3) sc_leastPlots.nd rfl (Or.inl rfl)) (fun _ _ _ _ _ => pts_nil)
        (fun _ _ _ _ _ => pe_dget hu (pv 1) (pv 3) (fun _ _ => rfl))) pa_nil))))), ?_⟩
    intro d nd
    -- for at, label in enumerate(labels)
    refine ⟨.ref a, rfl, a, ls.map V.int, rfl, hS.same (same_new nd), ?_⟩
    refine for_it (walk_enumB b) (fun i σ H3 => ∃ y2 y3 kvs, σ = [some (.ref a), some (.ref d), y2, y3] ∧ Same H H3 ∧ H3 d = some (.dK kvs) ∧ kvs.length ≤ i ∧ ∀ z : Int, valV kvs (Sum.inl z) = if z ∈ ls.take i then some (nv (fix z ls)) else none)
      ⟨none, none, [], rfl, same_new nd, upd_same, Nat.le_refl _, fun z => by rw [List.take_zero]; simp [valV_nil]⟩ (fun i σ H3 _ ⟨_, _, _, _, s, _⟩ => hS.same s) ?_ ?_
    · rintro i x σ H3 H4 hi ⟨y2, y3, kvs, rfl, sm, hd, hk, hv⟩ ⟨T, x1, x2, rfl, nT, rfl, e1, e2⟩
      obtain ⟨z, hz, rfl⟩ := int_at (show (ls.map V.int)[i]? = some x2 from e2)
      obtain rfl : V.int (i : Nat) = x1 := Option.some.inj e1
      have dT : d ≠ T := ne_of_none hd nT
      have hdT : (upd H3 T (.tup [.int (i : Nat), .int z])) d = some (.dK kvs) := by rw [upd_ne dT]; exact hd
      refine ⟨T, [.int (i : Nat), .int z], rfl, .inl (.inl upd_same), rfl, .int (i : Nat), [.int z], rfl, .int z, [], rfl, rfl, ?_⟩
      have tk : ls.take (i + 1) = ls.take i ++ [z] := by rw [List.take_add_one, hz]; rfl
      refine ⟨.int z, rfl, .ref d, rfl, d, _, rfl, DGet.k (k := Sum.inl z) hdT, _, rfl, ?_⟩
      have hvz := hv z
      by_cases c : z ∈ ls.take i
      · rw [if_pos c] at hvz
        rw [hvz]
        refine iteF ⟨some (.int (i : Nat)), some (.int z), kvs, rfl, sm.new nT, hdT, by omega, fun y => ?_⟩
        rw [hv y, tk]
        by_cases cy : y ∈ ls.take i
        · rw [if_pos cy, if_pos (List.mem_append_left _ cy)]
        · have : y ∉ ls.take i ++ [z] := fun m => by
            rcases List.mem_append.mp m with m | m
            · exact cy m
            · rw [List.mem_singleton.mp m] at cy; exact cy c
          rw [if_neg cy, if_neg this]
      · rw [if_neg c] at hvz
        rw [hvz]
        refine iteT ⟨.int (i : Nat), rfl, .ref d, rfl, .int z, rfl, d, _, rfl, DPut.k (k := Sum.inl z) hdT (line_small (by rw [List.length_map] at hi; omega)), ?_⟩
        refine ⟨some (.int (i : Nat)), some (.int z), putK kvs (Sum.inl z) (.int (i : Nat)), rfl, ?_, upd_same, ?_, fun y => ?_⟩
        · exact (sm.new nT).own nd
        · rw [putK_new _ hvz, List.length_append, List.length_singleton]; omega
        · rw [valV_put, hv y, tk]
          have fz : fix z ls = i := fix_is hz fun j hj e => c (by
            refine List.mem_of_getElem? (i := j) ?_
            rw [List.getElem?_take, if_pos hj]; exact e)
          by_cases cy : y = z
          · subst cy
            rw [if_pos rfl, if_pos (by simp), fz]
          · rw [if_neg (fun e => cy (Sum.inl.inj e))]
            by_cases cm : y ∈ ls.take i
            · rw [if_pos cm, if_pos (List.mem_append_left _ cm)]
            · have : y ∉ ls.take i ++ [z] := fun m => by
                rcases List.mem_append.mp m with m | m
                · exact cm m
                · exact cy (List.mem_singleton.mp m)
              rw [if_neg cm, if_neg this]
    · -- return tuple([found[label] for label in labels])
      rintro σ H3 ⟨y2, y3, kvs, rfl, sm, hd, hk, hv⟩
      rw [List.length_map, List.take_length] at hv
      refine ⟨.ref a, rfl, a, rfl, ⟨_, hS.same sm⟩, fun D nD => ?_⟩
      have nDH : H D = none := sm.free nD
      have dD : d ≠ D := ne_of_none hd nD
      refine lc_it (walk_seqB b) (fun i H4 => Same H H4 ∧ H4 d = some (.dK kvs) ∧ H4 D = some (.lst (((canon ls).take i).map nv)))
        ⟨sm.new nD, by rw [upd_ne dD]; exact hd, upd_same⟩ (fun i H4 _ ⟨s, _⟩ => hS.same s) ?_ ?_
      · rintro i x H4 H5 hi ⟨s4, d4, D4⟩ ⟨rfl, e2⟩
        obtain ⟨z, hz, rfl⟩ := int_at (show (ls.map V.int)[i]? = some x from e2)
        have vz : valV kvs (Sum.inl z) = some (nv (fix z ls)) := by rw [hv z, if_pos (List.mem_of_getElem? hz)]
        refine ⟨rfl, ?_⟩
        refine yesT ?_
        refine ⟨.ref d, rfl, .int z, rfl, d, nv (fix z ls), rfl, ?_, _, D4, ?_, ?_, ?_, ?_⟩
        · rw [← vz]; exact DGet.k (k := Sum.inl z) d4
        · rw [List.length_map, List.length_take]
          exact line_small (by have := canon_len ls; omega)
        · exact s4.own nDH
        · rw [upd_ne dD]; exact d4
        · rw [upd_same, List.take_add_one, canon_get hz, List.map_append]; rfl
      · rintro H4 ⟨s4, d4, D4⟩
        rw [List.length_map, List.take_of_length_le (by rw [canon_len]; exact Nat.le_refl _)] at D4
        refine ⟨D, _, rfl, .inl ⟨SqL.of D4, fun t nt => ?_⟩⟩
        exact q _ t (s4.new nt) (s4.free nt) upd_same
end
end Kw

set_option maxHeartbeats 4000000
/-! W3: named_lots. -/
namespace Kw
open PySem PySem.Spec PyProof.Rows L2
open C8 (Cal)
/-- tuples of plots, one by one -/
structure Tups (H : Hp) (ts : List Addr) (L : List (List Nat)) : Prop where
  len : ts.length = L.length
  at_ : ∀ {j : Nat} {t : Addr} {l : List Nat}, ts[j]? = some t → L[j]? = some l → H t = some (.tup (l.map nv))
theorem Tups.nil {H : Hp} : Tups H [] [] := ⟨rfl, fun h => by simp at h⟩
theorem Tups.same {H H' : Hp} {ts : List Addr} {L : List (List Nat)} (e : Same H H') (h : Tups H ts L) : Tups H' ts L := ⟨h.len, fun a b => e _ _ (h.at_ a b)⟩
theorem Tups.butl {H H' : Hp} {a : Addr} {xs : List V} {ts : List Addr} {L : List (List Nat)} (e : But a H H') (ha : H a = some (.lst xs)) (h : Tups H ts L) : Tups H' ts L := ⟨h.len, fun {j t l} x y => by
  refine e _ _ (fun q => ?_) (h.at_ x y)
  have := h.at_ x y
  rw [q, ha] at this
  cases this⟩
theorem Tups.snoc {H H' : Hp} {ts : List Addr} {L : List (List Nat)} {t : Addr} {l : List Nat} (h : Tups H ts L) (e : ∀ b ns, H b = some (.tup ns) → H' b = some (.tup ns)) (ht : H' t = some (.tup (l.map nv))) : Tups H' (ts ++ [t]) (L ++ [l]) := by
  refine ⟨by rw [List.length_append, List.length_append, h.len]; rfl, fun {j t' l'} a b => ?_⟩
  rcases Nat.lt_or_ge j ts.length with q | q
  · rw [List.getElem?_append_left q] at a
    rw [List.getElem?_append_left (by rw [← h.len]; exact q)] at b
    exact e _ _ (h.at_ a b)
  · rw [List.getElem?_append_right q] at a
    rw [List.getElem?_append_right (by rw [← h.len]; exact q), ← h.len] at b
    cases hj : j - ts.length with
    | zero =>
      rw [hj] at a b
      obtain rfl : t = t' := by simpa using a
      obtain rfl : l = l' := by simpa using b
      exact ht
    | succ m => rw [hj] at a; simp at a
/-- a tuple of tuples of plots -/
def LotsAt (H : Hp) (p : Addr) (L : List (List Nat)) : Prop := ∃ ts : List Addr, H p = some (.tup (ts.map V.ref)) ∧ Tups H ts L
theorem LotsAt.same {H H' : Hp} {p : Addr} {L : List (List Nat)} (e : Same H H') : LotsAt H p L → LotsAt H' p L := fun ⟨ts, h1, h2⟩ => ⟨ts, e _ _ h1, h2.same e⟩
/-- the rows, lists of their own -/
structure Rows (H0 H : Hp) (as : List Addr) (L : List (List Nat)) : Prop where
  len : as.length = L.length
  nd : as.Nodup
  own : ∀ {a : Addr}, a ∈ as → H0 a = none
  at_ : ∀ {j : Nat} {a : Addr} {l : List Nat}, as[j]? = some a → L[j]? = some l → H a = some (.lst (l.map nv))
theorem get_mem {α : Type} {l : List α} {j : Nat} {a : α} (h : l[j]? = some a) : a ∈ l := List.mem_of_getElem? h
theorem Rows.some_ {H0 H : Hp} {as : List Addr} {L : List (List Nat)} (h : Rows H0 H as L) {a : Addr} (m : a ∈ as) : ∃ xs, H a = some (.lst xs) := by
  obtain ⟨j, hj⟩ := List.getElem?_of_mem m
  have hl : j < L.length := by rw [← h.len]; exact (List.getElem?_eq_some_iff.mp hj).1
  exact ⟨_, h.at_ hj (List.getElem?_eq_getElem hl)⟩
theorem Rows.same {H0 H H' : Hp} {as : List Addr} {L : List (List Nat)} (e : ∀ a ∈ as, ∀ o, H a = some o → H' a = some o) (h : Rows H0 H as L) : Rows H0 H' as L := ⟨h.len, h.nd, h.own, fun a b => e _ (get_mem a) _ (h.at_ a b)⟩
theorem Rows.snoc {H0 H H' : Hp} {as : List Addr} {L : List (List Nat)} {t : Addr} {l : List Nat} (h : Rows H0 H as L) (e : ∀ b ∈ as, ∀ o, H b = some o → H' b = some o) (n0 : H0 t = none) (nt : H t = none) (ht : H' t = some (.lst (l.map nv))) : Rows H0 H' (as ++ [t]) (L ++ [l]) := by
  refine ⟨by rw [List.length_append, List.length_append, h.len]; rfl, ?_, fun {a} m => ?_, fun {j t' l'} a b => ?_⟩
  · rw [List.nodup_append]
    refine ⟨h.nd, List.nodup_cons.mpr ⟨by simp, .nil⟩, fun x hx y hy q => ?_⟩
    rw [List.mem_singleton.mp hy] at q
    obtain ⟨xs, e⟩ := h.some_ hx
    rw [q, nt] at e; cases e
  · rcases List.mem_append.mp m with m | m
    · exact h.own m
    · rw [List.mem_singleton.mp m]; exact n0
  · rcases Nat.lt_or_ge j as.length with q | q
    · rw [List.getElem?_append_left q] at a
      rw [List.getElem?_append_left (by rw [← h.len]; exact q)] at b
      exact e _ (get_mem a) _ (h.at_ a b)
    · rw [List.getElem?_append_right q] at a
      rw [List.getElem?_append_right (by rw [← h.len]; exact q), ← h.len] at b
      cases hj : j - as.length with
      | zero =>
        rw [hj] at a b
        obtain rfl : t = t' := by simpa using a
        obtain rfl : l = l' := by simpa using b
        exact ht
      | succ m => rw [hj] at a; simp at a
section
variable {P : Program} {w : World} {K : PySem.W.Frag} {mg : Str → Option Value} {base : Heap}
def spNamed : Sp := fun vs H Q _ => ∃ (t : Addr) (ns : List Nat), vs = [.ref t] ∧ H t = some (.tup (ns.map nv)) ∧ Nm ns ∧ ns.length ≤ 16 ∧ ∀ H' l, Same H H' → H l = none → LotsAt H' l (lots ns) → Q (.ref l) H'
theorem ok_named {f : Addr} {fd : FuncData} {k : Nat} (B : Bl mg) (F : L2.Fun K "named_lots" "named_lots" s_namedLots f fd) : FnOk P w K mg base L2.CX0 (k + 1) f fd ["names"] spNamed := by
  refine F.ok sc_namedLots (fun vs H Q E h => ?_) (fun cdv A outer s H vs Q E hr h => ?_)
  · obtain ⟨t, ns, rfl, _⟩ := h
    rfl
  · obtain ⟨t, ns, rfl, hT, hN, hl, q⟩ := h
    refine ⟨_, pss_cons (ps_setLc (i := 2) (own := [("name", 1)]) (g := gName 1) (tt := tYes) (by rfl) sc_namedLots.nd rfl rfl (sw_true rfl rfl rfl (by decide +kernel)) (pi_tup (pv 0))
        (blkOk_by (N := n_namedLots) (sc := defScope s_namedLots) (by decide +kernel)) (fun _ _ _ _ _ => pg_name (i := 1) sc_namedLots.nd rfl (Or.inl rfl)) (fun _ _ _ _ _ => pts_nil) (fun _ _ _ _ _ => pe_lst pa_nil))
      (pss_cons (ps_for PassesOwn.never rfl (pi_enumT rfl B.enum (pa_cons (pv 0) pa_nil))
        (pg_tup rfl (pgs_cons (pg_name (i := 3) sc_namedLots.nd rfl (.inl rfl)) (pgs_cons (pg_name (i := 1) sc_namedLots.nd rfl (.inl rfl)) pgs_nil)))
        (pss_one (ps_expr (pe_bm PySem.F.plainAttrs_list PySem.F.slot_list_append PySem.F.type_list_append mt_append (pe_ix ix_list (pv 2) (pv 1) fun _ _ => rfl) (pa_cons (pv 3) pa_nil)))))
      (pss_one (ps_ret (pe_callTy call_tuple_of rfl B.tuple boot_ty_tuple (pa_cons (pe_lc (own := [("row", 4)]) (g := gName 4) rfl sc_namedLots.nd (pi_list (pv 2))
        (blkOk_by (N := n_namedLots) (sc := defScope s_namedLots) (by decide +kernel)) (fun _ _ _ _ _ => pg_name (i := 4) sc_namedLots.nd rfl (Or.inl rfl)) (fun _ _ _ _ _ => pts_one (pt_tru K (pv 4)))
        (fun _ _ _ _ _ => pe_callTy (cTup K) rfl B.tuple boot_ty_tuple (pa_cons (pv 4) pa_nil))) pa_nil))))), ?_⟩
    have hS : ∀ {H'}, Same H H' → SqT K H' t (ns.map nv) := fun e => .inl (.inl (e _ _ hT))
    -- rows = [[] for name in names]
    refine ⟨.ref t, rfl, t, rfl, ⟨_, hS (Same.refl H)⟩, fun R nR => ?_⟩
    refine lc_it (walk_tup) (fun i H4 => Same H H4 ∧ ∃ as, H4 R = some (.lst (as.map V.ref)) ∧ R ∉ as ∧ Rows H H4 as ((List.range i).map (row ns 0)))
      ⟨same_new nR, [], upd_same, by simp, rfl, .nil, fun h => by simp at h, fun h => by simp at h⟩ (fun i H4 _ ⟨s, _⟩ => hS s) ?_ ?_
    · rintro i x H4 H5 hi ⟨s4, as, R4, nas, W4⟩ ⟨rfl, e2⟩
      refine ⟨rfl, yesT ⟨by decide, fun p np => ⟨_, by rw [upd_ne (ne_of_none R4 np)]; exact R4, ?_, ?_, as ++ [p], ?_, ?_, ?_⟩⟩⟩
      · rw [List.length_map]
        have := W4.len
        rw [List.length_map, List.length_range] at this
        exact line_small (by rw [List.length_map] at hi; omega)
      · exact (s4.new np).own nR
      · rw [upd_same, List.map_append]; rfl
      · intro m
        rcases List.mem_append.mp m with m | m
        · exact nas m
        · exact ne_of_none R4 np (List.mem_singleton.mp m)
      · rw [List.range_succ, List.map_append]
        refine W4.snoc (fun b hb o e => ?_) (s4.free np) np ?_
        · have h1 : b ≠ R := fun q => nas (q ▸ hb)
          rw [upd_ne h1, upd_ne (ne_of_none e np)]; exact e
        · rw [upd_ne (ne_of_none R4 np).symm, upd_same]; rfl
    · rintro H1 ⟨s1, as, R1, nas, W1⟩
      rw [List.length_map] at W1
      have hR0 : H R = none := nR
      -- for at, name in enumerate(names)
      refine ⟨.ref t, rfl, t, ns.map nv, rfl, hS s1, ?_⟩
      refine for_it walk_enumT (fun i σ H3 => ∃ y1 y3, σ = [some (.ref t), y1, some (.ref R), y3, none] ∧ Same H H3 ∧ H3 R = some (.lst (as.map V.ref)) ∧ Rows H H3 as ((List.range ns.length).map (row ns i)))
        ⟨none, none, rfl, s1, R1, W1⟩ (fun i σ H3 _ ⟨_, _, _, s, _⟩ => hS s) ?_ ?_
      · rintro i x σ H3 H4 hi ⟨y1, y3, rfl, s3, R3, W3⟩ ⟨T, x1, x2, rfl, nT, rfl, e1, e2⟩
        rw [List.length_map] at hi
        obtain rfl : V.int (i : Nat) = x1 := Option.some.inj e1
        have hm : ns[i]? = some ns[i] := List.getElem?_eq_getElem hi
        obtain rfl : nv ns[i] = x2 := by
          have := show (ns.map nv)[i]? = some x2 from e2
          rw [List.getElem?_map, hm] at this
          exact Option.some.inj this
        have hmi : ns[i] ≤ i := nm_le hN hm
        have hmn : ns[i] < as.length := by
          have := W3.len
          rw [List.length_map, List.length_range] at this
          omega
        have ha : as[ns[i]]? = some as[ns[i]] := List.getElem?_eq_getElem hmn
        have hL : ((List.range ns.length).map (row ns i))[ns[i]]? = some (row ns i ns[i]) := by
          rw [List.getElem?_map, List.getElem?_range (by omega)]; rfl
        have hA := W3.at_ ha hL
        have aT : as[ns[i]] ≠ T := ne_of_none hA nT
        have RT : R ≠ T := ne_of_none R3 nT
        have aR : as[ns[i]] ≠ R := fun q => nas (q ▸ get_mem ha)
        have hA' : (upd H3 T (.tup [.int (i : Nat), nv ns[i]])) as[ns[i]] = some (.lst ((row ns i ns[i]).map nv)) := by rw [upd_ne aT]; exact hA
        refine ⟨T, [.int (i : Nat), nv ns[i]], rfl, .inl (.inl upd_same), rfl, .int (i : Nat), [nv ns[i]], rfl, nv ns[i], [], rfl, rfl, ?_⟩
        refine ⟨.ref R, rfl, nv ns[i], rfl, R, _, _, _, rfl, rfl, SqL.of (by rw [upd_ne RT]; exact R3), atI_nat (by rw [List.getElem?_map, ha]; rfl), ?_⟩
        refine ⟨.inl ⟨rfl, _, SqL.of hA'⟩, .int (i : Nat), rfl, _, _, _, rfl, rfl, hA', ?_, ?_⟩
        · rw [List.length_map]
          exact line_small (by have := row_len ns i ns[i]; omega)
        · refine ⟨some (nv ns[i]), some (.int (i : Nat)), rfl, (s3.new nT).own (W3.own (get_mem ha)), ?_, ?_⟩
          · rw [upd_ne aR.symm, upd_ne RT]; exact R3
          · refine ⟨by rw [List.length_map, List.length_range]; have := W3.len; rw [List.length_map, List.length_range] at this; exact this, W3.nd, W3.own, fun {j a l} x y => ?_⟩
            rw [List.getElem?_map] at y
            by_cases c : j < ns.length
            · rw [List.getElem?_range c] at y
              obtain rfl : row ns (i + 1) j = l := Option.some.inj y
              by_cases cj : j = ns[i]
              · subst cj
                rw [ha] at x
                obtain rfl := Option.some.inj x
                rw [upd_same, row_hit hm, List.map_append]; rfl
              · have hx := W3.at_ x (show ((List.range ns.length).map (row ns i))[j]? = some (row ns i j) by rw [List.getElem?_map, List.getElem?_range c]; rfl)
                have n1 : a ≠ as[ns[i]] := fun q => by
                  subst q
                  exact cj ((List.getElem?_inj (by exact (List.getElem?_eq_some_iff.mp x).1) W3.nd).mp (x.trans ha.symm))
                rw [upd_ne n1, upd_ne (ne_of_none hx nT), hx, row_miss (by rw [hm]; exact fun q => cj (Option.some.inj q).symm)]
            · rw [List.getElem?_eq_none (by rw [List.length_range]; omega)] at y; cases y
      · -- return tuple([tuple(row) for row in rows if row])
        rintro σ H3 ⟨y1, y3, rfl, s3, R3, W3⟩
        rw [List.length_map] at W3
        refine ⟨.ref R, rfl, R, rfl, ⟨_, SqL.of R3⟩, fun D nD => ?_⟩
        have nDH : H D = none := s3.free nD
        have RD : R ≠ D := ne_of_none R3 nD
        refine lc_it walk_list (fun i H4 => Same H H4 ∧ H4 R = some (.lst (as.map V.ref)) ∧ Rows H H4 as ((List.range ns.length).map (row ns ns.length)) ∧ D ∉ as ∧
            ∃ ts, H4 D = some (.lst (ts.map V.ref)) ∧ Tups H4 ts (((List.range i).map (row ns ns.length)).filter fun r => !r.isEmpty))
          ⟨s3.new nD, by rw [upd_ne RD]; exact R3, W3.same (fun b hb o e => by rw [upd_ne (ne_of_none e nD)]; exact e), fun m => ?_, [], upd_same, Tups.nil⟩ (fun i H4 _ ⟨_, r, _⟩ => SqL.of r) ?_ ?_
        · obtain ⟨xs, e⟩ := W3.some_ m
          rw [nD] at e; cases e
        · rintro i x H4 H5 hi ⟨s4, R4, W4, nDa, ts, D4, T4⟩ ⟨rfl, e2⟩
          rw [List.length_map] at hi
          have ha : as[i]? = some as[i] := List.getElem?_eq_getElem hi
          obtain rfl : V.ref as[i] = x := by
            have := show (as.map V.ref)[i]? = some x from e2
            rw [List.getElem?_map, ha] at this
            exact Option.some.inj this
          have hin : i < ns.length := by
            have := W4.len
            rw [List.length_map, List.length_range] at this
            omega
          have hL : ((List.range ns.length).map (row ns ns.length))[i]? = some (row ns ns.length i) := by
            rw [List.getElem?_map, List.getElem?_range hin]; rfl
          have hA := W4.at_ ha hL
          have step : ((List.range (i + 1)).map (row ns ns.length)).filter (fun r => !r.isEmpty) = (((List.range i).map (row ns ns.length)).filter fun r => !r.isEmpty) ++ if (row ns ns.length i).isEmpty then [] else [row ns ns.length i] := by
            rw [List.range_succ, List.map_append, List.filter_append]
            refine congrArg (List.append _) ?_
            rw [List.map_singleton]
            cases h : row ns ns.length i with
            | nil => rfl
            | cons a b => rfl
          refine ⟨rfl, .ref as[i], rfl, _, .inl ⟨_, SqL.of hA, rfl⟩, ?_⟩
          rw [step]
          have tsl : ts.length ≤ 16 := by
            have h1 := T4.len
            have h2 := List.length_filter_le (fun r : List Nat => !r.isEmpty) ((List.range i).map (row ns ns.length))
            rw [List.length_map, List.length_range] at h2
            omega
          by_cases c : (row ns ns.length i) = []
          · rw [c]
            show (if false = true then _ else _)
            refine iteF ⟨s4, R4, W4, nDa, ts, D4, ?_⟩
            rw [show (if ([] : List Nat).isEmpty then ([] : List (List Nat)) else [[]]) = [] from rfl, List.append_nil]
            exact T4
          · have c1 : (row ns ns.length i).isEmpty = false := by cases h : row ns ns.length i with | nil => exact absurd h c | cons a b => rfl
            rw [c1, List.isEmpty_map, c1]
            refine iteT ⟨.ref as[i], rfl, as[i], _, rfl, .inl ⟨SqL.of hA, fun p np => ⟨_, by rw [upd_ne (ne_of_none D4 np)]; exact D4, ?_, ?_, ?_, ?_, nDa, ts ++ [p], ?_, ?_⟩⟩⟩
            · rw [List.length_map]; exact line_small (by omega)
            · exact (s4.new np).own nDH
            · rw [upd_ne RD, upd_ne (ne_of_none R4 np)]; exact R4
            · refine W4.same fun b hb o e => ?_
              have h1 : b ≠ D := fun q => nDa (q ▸ hb)
              rw [upd_ne h1, upd_ne (ne_of_none e np)]; exact e
            · rw [upd_same, List.map_append]; rfl
            · refine T4.snoc (fun b xs e => ?_) ?_
              · have h1 : b ≠ D := fun q => by rw [q, D4] at e; cases e
                rw [upd_ne h1, upd_ne (ne_of_none e np)]; exact e
              · rw [upd_ne (ne_of_none D4 np).symm, upd_same]
        · rintro H4 ⟨s4, R4, W4, nDa, ts, D4, T4⟩
          have hlen : (as.map V.ref).length = ns.length := by
            have := W4.len
            rw [List.length_map, List.length_range] at this
            rw [List.length_map, this]
          rw [hlen, rows_lots hN] at T4
          refine ⟨D, _, rfl, .inl ⟨SqL.of D4, fun l nl => ?_⟩⟩
          exact q _ l (s4.new nl) (s4.free nl) ⟨ts, upd_same, T4.same (same_new nl)⟩
end
end Kw

set_option maxHeartbeats 4000000
/-! W4: Parting: making, properties; parting_text. -/
namespace Kw
open PySem PySem.Spec PyProof.Rows L2
open TL (numL numL_len)
open C8 (Cal)
theorem mk_len (l : List Nat) : (mk l).length = l.length := by rw [TL.len_tl]; rfl
theorem sum_le (b : Nat) : ∀ (ys : List Str), (∀ y ∈ ys, y.length ≤ b) → (ys.map (·.length)).sum ≤ ys.length * b
  | [], _ => by simp
  | y :: r, h => by
    have h1 := h y (List.mem_cons_self ..)
    have ih := sum_le b r fun z hz => h z (List.mem_cons_of_mem _ hz)
    rw [List.map_cons, List.sum_cons, List.length_cons, Nat.succ_mul]
    omega
theorem log_small {i : Int} (h : i.natAbs ≤ 1000000) : i.natAbs.log2 < 1920 := by
  by_cases c : i.natAbs = 0
  · rw [c]; decide
  · exact Nat.lt_of_lt_of_le ((Nat.log2_lt c).mpr (Nat.lt_of_le_of_lt h (by decide : 1000000 < 2 ^ 20))) (by decide)
/-- a parting that stands -/
def PartX (H : Hp) (CP p dx tn tl : Addr) (ns : List Nat) : Prop := H p = some (.ins CP dx [("own_names", .ref tn), ("own_lots", .ref tl)]) ∧ H tn = some (.tup (ns.map nv)) ∧ LotsAt H tl (lots ns)
def PartAt (H : Hp) (CP p : Addr) (ns : List Nat) : Prop := ∃ dx tn tl, PartX H CP p dx tn tl ns
theorem PartX.same {H H' : Hp} {CP p dx tn tl : Addr} {ns : List Nat} (e : Same H H') (h : PartX H CP p dx tn tl ns) : PartX H' CP p dx tn tl ns := ⟨e _ _ h.1, e _ _ h.2.1, h.2.2.same e⟩
theorem PartAt.same {H H' : Hp} {CP p : Addr} {ns : List Nat} (e : Same H H') : PartAt H CP p ns → PartAt H' CP p ns := fun ⟨a, b, c, h⟩ => ⟨a, b, c, h.same e⟩
theorem PartAt.butl {H H' : Hp} {a : Addr} {xs : List V} {CP p : Addr} {ns : List Nat} (e : But a H H') (ha : H a = some (.lst xs)) : PartAt H CP p ns → PartAt H' CP p ns := fun ⟨dx, tn, tl, h1, h2, ts, h3, h4⟩ =>
  ⟨dx, tn, tl, e _ _ (fun q => by rw [q, ha] at h1; cases h1) h1, e _ _ (fun q => by rw [q, ha] at h2; cases h2) h2, ts, e _ _ (fun q => by rw [q, ha] at h3; cases h3) h3, h4.butl e ha⟩
section
variable {P : Program} {w : World} {K : PySem.W.Frag} {mg : Str → Option Value} {base : Heap} {CP : Addr}
/-- the class Parting -/
structure PtC (K : PySem.W.Frag) (CP : Addr) : Prop where
  cl : Cls K CP
  nn : NoAttr K CP "own_names"
  nl : NoAttr K CP "own_lots"
/-! ### __init__ -/
def spInit (K : PySem.W.Frag) (CP : Addr) : Sp := fun vs H Q _ => ∃ (x dx : Addr) (b : Bool) (a : Addr) (ls : List Int), vs = [.ref x, .ref a] ∧ H x = some (.ins CP dx []) ∧ SqB K b H a (ls.map V.int) ∧ 1 ≤ ls.length ∧ ls.length ≤ 16 ∧
  ∀ H', But x H H' → PartAt H' CP x (canon ls) → Q .non H'
theorem ok_init {f : Addr} {fd : FuncData} {k : Nat} (PC : PtC K CP) (cN : Cal P w K mg base 3 "need_labels" (spNeedL K) []) (cL : Cal P w K mg base 1 "least_plots" (spLeast K) []) (cM : Cal P w K mg base 1 "named_lots" spNamed [])
    (F : L2.Fun K "__init__" "Parting.__init__" s_pInit f fd) : FnOk P w K mg base L2.CX0 (k + 4) f fd ["self", "labels"] (spInit K CP) := by
  refine F.ok sc_pInit (fun vs H Q E h => ?_) (fun cdv A outer s H vs Q E hr h => ?_)
  · obtain ⟨x, dx, b, a, ls, rfl, _⟩ := h
    rfl
  · obtain ⟨x, dx, b, a, ls, rfl, hx, hS, h1, h2, q⟩ := h
    refine ⟨_, pss_cons (ps_expr (C8.pe_c cN hr (by omega) rfl (pa_cons (pv 1) pa_nil)))
      (pss_cons (ps_fld (pv 0) (C8.pe_c cL hr (by omega) rfl (pa_cons (pv 1) pa_nil)) rfl)
      (pss_one (ps_fld (pv 0) (C8.pe_c cM hr (by omega) rfl (pa_cons (pe_fld (pv 0) rfl) pa_nil)) rfl))), ?_⟩
    refine ⟨.ref a, rfl, b, a, ls, rfl, hS, h1, h2, fun H1 s1 => ?_⟩
    refine ⟨.ref a, rfl, b, a, ls, rfl, hS.same s1, h2, fun H2 tn s2 n2 e2 => ?_⟩
    have s12 := s1.trans s2
    have hx2 := s12 _ _ hx
    refine ⟨.ref x, rfl, x, CP, dx, _, rfl, hx2, PC.cl, PC.nn, by decide, ?_⟩
    have tx : tn ≠ x := fun e => by rw [e, hx2] at e2; cases e2
    have hx3 : (upd H2 x (.ins CP dx (putF "own_names" (.ref tn) []))) x = some (.ins CP dx [("own_names", .ref tn)]) := upd_same
    refine ⟨.ref x, rfl, x, CP, dx, _, .ref tn, rfl, hx3, PC.cl, PC.nn, rfl, ?_⟩
    have e3 : (upd H2 x (.ins CP dx (putF "own_names" (.ref tn) []))) tn = some (.tup ((canon ls).map nv)) := by rw [upd_ne tx]; exact e2
    refine ⟨tn, canon ls, rfl, e3, nm_canon ls, by rw [canon_len]; exact h2, fun H4 tl s4 n4 l4 => ?_⟩
    have hx4 := s4 _ _ hx3
    refine ⟨.ref x, rfl, x, CP, dx, _, rfl, hx4, PC.cl, PC.nl, by show 1 < 1000; decide, ?_⟩
    refine q _ ?_ ⟨dx, tn, tl, upd_same, ?_, ?_⟩
    · exact (((s12.but).at).trans s4.but).at
    · rw [upd_ne tx]; exact s4 _ _ e3
    · obtain ⟨ts, t1, t2⟩ := l4
      have nx : ∀ {b ys}, H4 b = some (.tup ys) → b ≠ x := fun {b ys} e q => by rw [q, hx4] at e; cases e
      exact ⟨ts, by rw [upd_ne (nx t1)]; exact t1, t2.len, fun u v => by rw [upd_ne (nx (t2.at_ u v))]; exact t2.at_ u v⟩
/-- a making, answered -/
theorem mkPart {vs : List V} {H1 : Hp} {Q : VK} {E : XK} (h : ∃ (b : Bool) (a : Addr) (ls : List Int), vs = [.ref a] ∧ SqB K b H1 a (ls.map V.int) ∧ 1 ≤ ls.length ∧ ls.length ≤ 16 ∧ ∀ x H', H1 x = none → Same H1 H' → PartAt H' CP x (canon ls) → Q (.ref x) H') :
    ∀ x dx, H1 x = none → H1 dx = none → dx ≠ x → spInit K CP (.ref x :: (vs ++ [])) (upd (upd H1 dx (.own x)) x (.ins CP dx [])) (fun v H2 => v = .non ∧ Q (.ref x) H2) E := by
  obtain ⟨b, a, ls, rfl, hS, h1, h2, q⟩ := h
  intro x dx nx ndx hne
  have sm : Same H1 (upd (upd H1 dx (.own x)) x (.ins CP dx [])) := ((Same.refl H1).new ndx).own nx
  exact ⟨x, dx, b, a, ls, rfl, upd_same, hS.same sm, h1, h2, fun H' bt pa => ⟨rfl, q x H' nx (fun b o e => bt b o (ne_of_none e nx) (sm b o e)) pa⟩⟩
theorem mkPart2 {b : Bool} {a x dx : Addr} {ls : List Int} {H1 : Hp} {R : VK} {E : XK} (nx : H1 x = none) (ndx : H1 dx = none) (hS : SqB K b H1 a (ls.map V.int)) (h1 : 1 ≤ ls.length) (h2 : ls.length ≤ 16) (q : ∀ H', Same H1 H' → PartAt H' CP x (canon ls) → R .non H') :
    spInit K CP [.ref x, .ref a] (upd (upd H1 dx (.own x)) x (.ins CP dx [])) R E := by
  have sm : Same H1 (upd (upd H1 dx (.own x)) x (.ins CP dx [])) := ((Same.refl H1).new ndx).own nx
  exact ⟨x, dx, b, a, ls, rfl, upd_same, hS.same sm, h1, h2, fun H' bt pa => q H' (fun b o e => bt b o (ne_of_none e nx) (sm b o e)) pa⟩
/-! ### properties -/
def spGet (CP : Addr) (n : Bool) : Sp := fun vs H Q _ => ∃ p dx tn tl, vs = [.ref p] ∧ H p = some (.ins CP dx [("own_names", .ref tn), ("own_lots", .ref tl)]) ∧ Q (.ref (if n then tn else tl)) H
theorem ok_pNames {f : Addr} {fd : FuncData} {k : Nat} (PC : PtC K CP) (F : L2.Fun K "names" "Parting.names" s_pNames f fd) : FnOk P w K mg base L2.CX0 (k + 1) f fd ["self"] (spGet CP true) := by
  refine F.ok sc_pNames (fun vs H Q E h => ?_) (fun cdv A outer s H vs Q E hr h => ?_)
  · obtain ⟨p, dx, tn, tl, rfl, _⟩ := h
    rfl
  · obtain ⟨p, dx, tn, tl, rfl, hp, q⟩ := h
    refine ⟨_, pss_one (ps_ret (pe_fld (pv 0) rfl)), ?_⟩
    exact ⟨.ref p, rfl, p, CP, dx, _, _, rfl, hp, PC.cl, PC.nn, rfl, q⟩
theorem ok_pLots {f : Addr} {fd : FuncData} {k : Nat} (PC : PtC K CP) (F : L2.Fun K "lots" "Parting.lots" s_pLots f fd) : FnOk P w K mg base L2.CX0 (k + 1) f fd ["self"] (spGet CP false) := by
  refine F.ok sc_pLots (fun vs H Q E h => ?_) (fun cdv A outer s H vs Q E hr h => ?_)
  · obtain ⟨p, dx, tn, tl, rfl, _⟩ := h
    rfl
  · obtain ⟨p, dx, tn, tl, rfl, hp, q⟩ := h
    refine ⟨_, pss_one (ps_ret (pe_fld (pv 0) rfl)), ?_⟩
    exact ⟨.ref p, rfl, p, CP, dx, _, _, rfl, hp, PC.cl, PC.nl, rfl, q⟩
def spPlots (CP : Addr) : Sp := fun vs H Q _ => ∃ p dx tn tl ns, vs = [.ref p] ∧ PartX H CP p dx tn tl ns ∧ Q (nv ns.length) H
theorem ok_pPlots {f : Addr} {fd : FuncData} {k : Nat} (B : Bl mg) (PC : PtC K CP) (F : L2.Fun K "plots" "Parting.plots" s_pPlots f fd) : FnOk P w K mg base L2.CX0 (k + 1) f fd ["self"] (spPlots CP) := by
  refine F.ok sc_pPlots (fun vs H Q E h => ?_) (fun cdv A outer s H vs Q E hr h => ?_)
  · obtain ⟨p, dx, tn, tl, ns, rfl, _⟩ := h
    rfl
  · obtain ⟨p, dx, tn, tl, ns, rfl, hp, q⟩ := h
    refine ⟨_, pss_one (ps_ret (pe_callB call_len_seq (by rfl) B.len boot_len (pa_cons (pe_fld (pv 0) rfl) pa_nil))), ?_⟩
    refine ⟨.ref p, rfl, p, CP, dx, _, _, rfl, hp.1, PC.cl, PC.nn, rfl, tn, ns.map nv, rfl, .inr (.inl (.inl hp.2.1)), ?_⟩
    rw [List.length_map]
    exact q
/-! ### parting_text -/
/-- a property of Parting -/
structure PrC (P : Program) (w : World) (K : PySem.W.Frag) (mg : Str → Option Value) (base : Heap) (CP : Addr) (f : Str) (sp : Sp) : Prop where
  ex : ∃ (p g : Addr) (fd : FuncData), PropOf K CP f p g ∧ FnOk P w K mg base L2.CX0 1 g fd ["self"] sp ∧ Binds K fd ["self"] []
theorem pe_pr {X : Cx} {e : Expr} {ta : TE} {f : Str} {sp : Sp} {pos : Pos} {k : Nat} (R : PrC X.prog X.w X.K X.mg X.base CP f sp) (c : Cls X.K CP) (hr : Room k X.A) (hk : 2 ≤ k) (he : PE X e ta) (hab : attributeBase e f X.env (eval e X.env) = eval e X.env := by rfl) :
    PE X (.Attribute e f pos) (tProp CP sp [] (fun _ _ _ => False) ta) := by
  obtain ⟨p, g, fd, h1, h2, h3⟩ := R.ex
  exact pe_prop he c h1 h2 (hr.mono hk) h3 .nil (fun _ _ _ _ _ _ _ h => h) hab
def spPText (CP : Addr) : Sp := fun vs H Q _ => ∃ p ns, vs = [.ref p] ∧ PartAt H CP p ns ∧ ns.length ≤ 20 ∧ ∀ H', Same H H' → Q (.str (text ns)) H'
theorem ok_partingText {f : Addr} {fd : FuncData} {k : Nat} (B : Bl mg) (PC : PtC K CP) (pL : PrC P w K mg base CP "lots" (spGet CP false)) (F : L2.Fun K "parting_text" "parting_text" s_partingText f fd) : FnOk P w K mg base L2.CX0 (k + 3) f fd ["parting"] (spPText CP) := by
  refine F.ok sc_partingText (fun vs H Q E h => ?_) (fun cdv A outer s H vs Q E hr h => ?_)
  · obtain ⟨p, ns, rfl, _⟩ := h
    rfl
  · obtain ⟨p, ns, rfl, ⟨dx, tn, tl, hp⟩, hl, q⟩ := h
    refine ⟨_, pss_one (ps_ret (pJoin K pe_str (pe_lc (own := [("lot", 1)]) (g := gName 1) (tt := tYes) rfl sc_partingText.nd (piT K (pe_pr pL PC.cl hr (by omega) (pv 0)))
      (blkOk_by (N := n_partingText) (sc := defScope s_partingText) (by decide +kernel)) (fun _ _ _ _ _ => pg_name (i := 1) sc_partingText.nd rfl (Or.inl rfl)) (fun _ _ _ _ _ => pts_nil)
      (fun _ _ _ _ _ => pJoin K pe_str (pe_lc (own := [("plot", 2)]) (g := gName 2) (tt := tYes) rfl sc_partingText.nd (piT K (pv 1))
        (blkOk_by (by kernel_rfl)) (fun _ _ _ _ _ => pg_name (i := 2) sc_partingText.nd rfl (Or.inl rfl)) (fun _ _ _ _ _ => pts_nil)
        (fun _ _ _ _ _ => pe_callTy call_str_int rfl B.str boot_ty_str (pa_cons (pv 2) pa_nil))))))), ?_⟩
    obtain ⟨ts, t1, t2⟩ := hp.2.2
    have hT : ∀ {H'}, Same H H' → SqT K H' tl (ts.map V.ref) := fun e => .inl (.inl (e _ _ t1))
    have hLl : (lots ns).length ≤ 20 := Nat.le_trans (lots_len ns) hl
    refine ⟨⟨_, rfl⟩, .ref p, rfl, p, dx, _, rfl, hp.1, p, dx, tn, tl, rfl, hp.1, ?_⟩
    refine ⟨tl, rfl, ⟨_, hT (Same.refl H)⟩, fun D nD => ?_⟩
    refine lc_it walk_tup (fun i H4 => Same H H4 ∧ H4 D = some (.lst (((lots ns).take i).map fun l => V.str (mk (lotL l))))) ⟨same_new nD, upd_same⟩ (fun i H4 _ ⟨s, _⟩ => hT s) ?_ ?_
    · rintro i x H4 H5 hi ⟨s4, D4⟩ ⟨rfl, e2⟩
      rw [List.length_map] at hi
      have hi2 : i < (lots ns).length := by rw [← t2.len]; exact hi
      have ht : ts[i]? = some ts[i] := List.getElem?_eq_getElem hi
      have hli : (lots ns)[i]? = some (lots ns)[i] := List.getElem?_eq_getElem hi2
      obtain rfl : V.ref ts[i] = x := by
        have := show (ts.map V.ref)[i]? = some x from e2
        rw [List.getElem?_map, ht] at this
        exact Option.some.inj this
      obtain ⟨ll, lk⟩ := lots_small (get_mem hli)
      have hL : ∀ {H'}, Same H H' → SqT K H' ts[i] ((lots ns)[i].map nv) := fun e => .inl (.inl (e _ _ (t2.at_ ht hli)))
      refine ⟨rfl, yesT ?_⟩
      refine ⟨⟨_, rfl⟩, .ref ts[i], rfl, ts[i], rfl, ⟨_, hL s4⟩, fun D2 nD2 => ?_⟩
      have DD : D ≠ D2 := ne_of_none D4 nD2
      refine lc_it walk_tup (fun j H6 => Same H H6 ∧ H6 D = some (.lst (((lots ns).take i).map fun l => V.str (mk (lotL l)))) ∧ H6 D2 = some (.lst (((lots ns)[i].take j).map fun k => V.str (mk (numL k))))) ⟨s4.new nD2, by rw [upd_ne DD]; exact D4, upd_same⟩ (fun j H6 _ ⟨s, _⟩ => hL s) ?_ ?_
      · rintro j x H6 H7 hj ⟨s6, D6, E6⟩ ⟨rfl, e3⟩
        rw [List.length_map] at hj
        have hlj : (lots ns)[i][j]? = some (lots ns)[i][j] := List.getElem?_eq_getElem hj
        obtain rfl : nv (lots ns)[i][j] = x := by
          have := show ((lots ns)[i].map nv)[j]? = some x from e3
          rw [List.getElem?_map, hlj] at this
          exact Option.some.inj this
        have hk20 := lk _ (get_mem hlj)
        refine ⟨rfl, yesT ⟨nv (lots ns)[i][j], rfl, _, rfl, ?_, _, E6, ?_, (s6.own (s4.free nD2)), by rw [upd_ne DD]; exact D6, ?_⟩⟩
        · exact log_small (by omega)
        · rw [List.length_map]; exact line_small (by rw [List.length_take]; omega)
        · rw [upd_same, List.take_add_one, hlj, List.map_append, str_num]; rfl
      · rintro H6 ⟨s6, D6, E6⟩
        rw [List.length_map, List.take_length] at E6
        refine ⟨_, D2, (lots ns)[i].map fun k => mk (numL k), rfl, rfl, .inl (SqL.of (by rw [E6, List.map_map]; rfl)), ?_, _, D6, ?_, ?_, ?_⟩
        · refine Nat.le_trans (Nat.add_le_add (sum_le 2 _ fun y hy => ?_) (Nat.le_refl _)) (?_ : _ ≤ _)
          · obtain ⟨k, hk, rfl⟩ := List.mem_map.mp hy
            rw [mk_len]
            exact numL_len (k := 2) (by decide) (by have := lk k hk; omega)
          · rw [List.length_map]
            have : (" " : Str).length = 1 := by decide +kernel
            rw [this]; omega
        · rw [List.length_map]; exact line_small (by rw [List.length_take]; omega)
        · exact s6.own nD
        · rw [upd_same, List.take_add_one, hli, List.map_append, join_lot]; rfl
    · rintro H4 ⟨s4, D4⟩
      rw [List.length_map, t2.len, List.take_length] at D4
      refine ⟨_, D, (lots ns).map fun l => mk (lotL l), rfl, rfl, .inl (SqL.of (by rw [D4, List.map_map]; rfl)), ?_, ?_⟩
      · refine Nat.le_trans (Nat.add_le_add (sum_le 60 _ fun y hy => ?_) (Nat.le_refl _)) (?_ : _ ≤ _)
        · obtain ⟨l, hm, rfl⟩ := List.mem_map.mp hy
          rw [mk_len]
          obtain ⟨h1, h2⟩ := lots_small hm
          exact len_lot hl h1 h2
        · rw [List.length_map]
          have : ("|" : Str).length = 1 := by decide +kernel
          rw [this]; omega
      · rw [join_text]
        exact q _ s4
end
end Kw

set_option maxHeartbeats 4000000
/-! E1: the __init__ of an own exception that says super().__init__(text) first, then stores fields. -/
namespace Kw
open PySem PySem.Spec PyProof.Rows L2 NdefX L2H
/-- what the written part says of such a class -/
structure SupC (K : PySem.W.Frag) (C : Addr) : Prop where
  ox : OexC K C
  sup : PySem.W.ks_superIn K C C "__init__" = some (some (.builtin "ValueError.__init__"))
  ve : PySem.W.subIn K (.ref C) (.type "ValueError") = some true
  me : PySem.W.mroIn K C (.ref C) = some true
  tp : PySem.W.nsIn K PySem.cStatics "thirdparty.any" = some none
/-- what it says of its __init__ -/
structure SupFn (P : Program) (K : PySem.W.Frag) (C : Addr) (qual : Str) (st : Stmt) (f : Addr) (fd : FuncData) : Prop where
  ex : ∃ (oc : Value) (od : Option Addr) (kV doc pm : Value) (an : Option Addr) (cda cc : Addr) (ct : Value) (osl : Array (Option Value)),
    fd = PySem.W.fnX "__init__" qual (defArgs st) (defBody st) (defScope st) [("__class__", cc)] .none kV doc pm an (.ref cda) ct ∧ K.lookup f = some ⟨oc, od, .func fd, osl⟩ ∧ PySem.W.codeIn K (.ref cda) qual = true ∧
    (∃ (ccl : Value) (cdd : Option Addr) (vs : Array Value) (ccs : Array (Option Value)) (file : Str) (tf : Tok), K.lookup cda = some ⟨ccl, cdd, .fields vs, ccs⟩ ∧ vs[2]? = some (.str file tf) ∧ ((P.main.file : Str) == file) = true) ∧
    ∃ (cl : Value) (cld : Option Addr) (csl : Array (Option Value)), K.lookup cc = some ⟨cl, cld, .cell (some (.ref C)), csl⟩
section
variable {prog : Program} {w : World} {A : Around} {E : Value → Shared → Prop} {h : Heap} {g : Array GenState} {d : Drawn} {t : Nat} {os : OsState}
theorem call_mw {nm q : Str} {C N : Addr} {bs bm : List Value} {hdct : Bool} {sn : List Str} {sub : List Value} {ab : Bool} {col : Option Bool} {dd : Option Addr} {k0 k1 k2 k3 k5 : Option Value} {u e t0 : Addr} {rest : List Value} {Q : Value → Shared → Prop}
    (hC : h.get? C = some (excClassObj nm q C N bs bm hdct sn sub ab col dd k0 k1 k2 k3 k5 "ValueError.__new__")) (he : h.get? e = some ({ cls := .ref C, dict := none, data := .fields #[.ref t0, .none, .none, .none, .bool false, .none] } : Obj))
    (hu : h.get? u = some (PySem.W.kxs_mw "ValueError.__init__" e)) (hz : rest.length ≤ sizeLine)
    (hq : ∀ h' t1, (∀ b o, b ≠ e → h.get? b = some o → h'.get? b = some o) → h'.get? e = some ({ cls := .ref C, dict := none, data := .fields #[.ref t1, .none, .none, .none, .bool false, .none] } : Obj) → Q .none ⟨h', g, d, t, os⟩) :
    wpAny (model prog w) A (call (.ref u) rest) Q E ⟨h, g, d, t, os⟩ := by
  refine wpAny_call (codeAny_of_tree ?_)
  show wpAny _ A.in1 (callAny (.ref u) ⟨rest, []⟩) _ _ _
  simp only [callAny]
  refine wpAny_bind (wpAny_load hu ?_)
  simp only [PySem.W.kxs_mw, show (Value.type "method-wrapper" == Value.type "method" || Value.type "method-wrapper" == Value.type "builtin_function_or_method" || Value.type "method-wrapper" == Value.type "method-wrapper") = true by decide, if_true]
  refine PySem.W.KFB.if_so (by decide) ?_
  refine wpAny_bind (PySem.W.check_bound_init PySem.F.excBase_ValueError.toExcCallFacts hC he rfl ?_)
  refine wpAny_bind (wpAny_pure (wpAny_pure ?_))
  refine ⟨plainId_quiet PySem.F.excBase_ValueError.init.plain _, codeAny_builtin PySem.F.excBase_ValueError.initEntry ?_⟩
  exact PySem.W.exc_init_tree (cls := .ref C) (t0 := t0) (dv := none) (c2 := .none) (c3 := .none) (b4 := .bool false) he hz fun h' k e' t' => hq h' _ k e'
theorem callWith_mw {i : String} {u x : Addr} {s : Shared} {pos pc : Pos} {env : Env} {msg : Str} {j : Nat} {Q : Value → Shared → Prop} (hu : s.heap.get? u = some (PySem.W.kxs_mw i x))
    (h : wpAny (model prog w) A (call (.ref u) [.str msg s.toks]) Q E { s with toks := s.toks + 1 }) :
    wpAny (model prog w) A (callWith pos (.ref u) [] (backTo pos (starEach [.Constant (.str msg) j pc] env)) []) Q E s := by
  have he : starEach [.Constant (.str msg) j pc] env = [(false, eval (.Constant (.str msg) j pc) env)] := by rfl
  rw [he]
  refine PySem.W.kxs_callWith (i := i) (x := x) (by rfl) ?_
  show wpAny _ _ (evalArgs (.ref u) true ((false, eval (.Constant (.str msg) j pc) env) :: []) []) _ _ _
  exact Calls.evalArgs_plain (Calls.spliced_cons (Calls.Constant_str (Calls.spliced_nil ⟨hu, h⟩)))
end
section
variable {CX : CXT} {P : Program} {w : World} {K : PySem.W.Frag} {mg : Str → Option Value} {base : Heap} {k : Nat} {f C : Addr} {fd : FuncData} {qual : Str} {st : Stmt} {N ps : List Str} {sp : Sp}
/-- the context behind super().__init__(..) -/
abbrev cxS (CX : CXT) (P : Program) (w : World) (K : PySem.W.Frag) (mg : Str → Option Value) (base : Heap) (N : List Str) (qual : Str) (st : Stmt) (f cda cc : Addr) (A : Around) (outer : List Env) (s : Shared) (H : Hp) (E : XK) : Cx :=
  ncx CX P w K mg base N ⟨"__init__", qual, defArgs st, defBody st, defScope st, [("__class__", cc)], cda⟩ f A outer s H E
theorem fn_sup {p0 p1 p2 p3 p4 pc : Pos} {msg : Str} {j : Nat} {rest : List Stmt} {ar : Arg} {qs : List Str} (SF : SupFn P K C qual st f fd) (SC : SupC K C) (hmg : mg "super" = none) (htop : (P.main.scope.names.lookup ("super" : Str)).isSome = false)
    (S : NScope N ps ["__class__"] (defScope st)) (hps : ps = ("self" : Str) :: qs) (hks : (defScope st).names.lookup ("super" : Str) = some .globalImplicit)
    (hargs : ((defArgs st).posonlyargs ++ (defArgs st).args).head? = some ar) (har : ar.arg = "self")
    (hbody : defBody st = .Expr (.Call (.Attribute (.Call (.Name "super" p0) [] [] p1) "__init__" p2) [.Constant (.str msg) j pc] [] p3) p4 :: rest)
    (hcall : ∀ env : Env, eval (.Call (.Attribute (.Call (.Name "super" p0) [] [] p1) "__init__" p2) [.Constant (.str msg) j pc] [] p3) env = (do
      let ov ← attributeBase (.Call (.Name "super" p0) [] [] p1) "__init__" env (eval (.Call (.Name "super" p0) [] [] p1) env)
      standAt p2.atName
      let (f, first) ← holding [ov] (getMethod ov "__init__" (pure false))
      callWith p3 f first (backTo p3 (starEach [.Constant (.str msg) j pc] env)) []))
    (len : ∀ vs H Q E, sp vs H Q E → vs.length = ps.length)
    (hrest : ∀ (cda cc : Addr) (A : Around) (outer : List Env) (s : Shared) (H : Hp) (vs : List V) (Q : VK) (E : XK), sp vs H Q E → ∃ (a : Addr) (vs' : List V), vs = .ref a :: vs' ∧ H a = some (exo a C none) ∧
      ∃ t, PSs (cxS CX P w K mg base N qual st f cda cc A outer s H E) rest t ∧ t { nx := fun _ H' => Q .non H', rt := Q } (startF N vs [none]) H) :
    FnOk P w K mg base CX (k + 1) f fd ps sp := by
  refine ⟨len, fun A outer s H args us vs Q E hr e0 hb r hsp => ?_⟩
  have hl := len _ _ _ _ hsp
  obtain ⟨oc, od, kV, doc, pm, an, cda, cc, ct, osl, rfl, lk, hcd, ⟨ccl, cdd, cvs, ccs, file, tf, lc, hv2, hfile⟩, ⟨cl, cld, csl, lcc⟩⟩ := SF.ex
  obtain ⟨a, vs', rfl, ha, tr, htr, hqr⟩ := hrest cda cc A outer s H vs Q E hsp
  have KX : K.In s.heap := e0.mod.kin.keeps fun b o e => (e0.bs b o e).1
  have lim : s.heap.NoLimit := e0.mod.nolimit.keeps fun b o e => (e0.bs b o e).1
  have C0 : CellsAt [("__class__", cc)] ["__class__"] [none] s.heap H := by
    refine ⟨rfl, fun y c e => ?_, fun x y c e1 e2 => ?_, fun i y e => ?_⟩
    · have hc : c = cc := by
        have m := PySem.mem_of_lookup e
        simp at m
        exact m.2
      subst hc
      exact ⟨(e0.bs c _ (e0.mod.kin _ _ lcc)).2, _, _, KX _ _ lcc, rfl⟩
    · have m1 := PySem.mem_of_lookup e1
      have m2 := PySem.mem_of_lookup e2
      simp at m1 m2
      rw [m1.1, m2.1]
    · cases i with
      | zero =>
        obtain rfl : ("__class__" : Str) = y := by simpa using e
        exact ⟨cc, rfl, fun v e => by simp at e⟩
      | succ i => simp at e
  obtain ⟨hp0, g, d, t, os⟩ := s
  refine ks_codeAny_call_defAt hr.depth (KX _ _ lk) rfl lim (PySem.W.codeRec_of KX hcd) rfl hb S.nocell (fun ⟨n, _⟩ hy => S.par n (List.of_mem_zip hy).1) (fun h₁ hns kp => ?_) S.co S.gen S.kind
  have I : Inv (cxS CX P w K mg base N qual st f cda cc A outer ⟨hp0, g, d, t, os⟩ H E) [] (startF N (.ref a :: vs') [none]) H ⟨h₁, g, d, t + (ps.zip us).length, os⟩ := inv_startN S hr.hd e0 hl r C0 hns kp
  have K1 : K.In h₁ := I.kIn
  have hself : (ps.zip us).reverse.lookup ("self" : Str) = some (Value.ref a) := by
    cases r with
    | @cons _ u0 _ ur ra rw' =>
      obtain rfl : u0 = Value.ref a := ra
      have ndP : ps.Nodup := by
        have q := S.nd.sublist (List.take_sublist (ps.length + 1) N)
        have pr := S.pre
        rw [show ([("__class__" : Str)] : List Str).length = 1 from rfl] at pr
        rw [pr] at q
        exact (List.nodup_append.mp q).1
      exact zip_look (i := 0) ndP (by rw [hps]; rfl) rfl
  have hkc : (defScope st).names.lookup ("__class__" : Str) = some .free := S.frk _ (List.mem_singleton.mpr rfl)
  have hka : (defScope st).names.lookup ("self" : Str) = some .local := S.par _ (by rw [hps]; exact List.mem_cons_self ..)
  obtain ⟨mb, hb1, hb2⟩ := I.mod.blt
  obtain ⟨nm, q, NN, bs, bm, sn, sub, ab, col, dd, k0, k1, k2, k3, k5, hC, hbm⟩ := SC.ox.cls
  obtain ⟨t1, hx⟩ := exo_at I.hok ha
  have hcls : PySem.W.clsIn K C = some { name := nm, bases := bs, mro := .ref C :: bm, ns := NN, qualname := q, hasDict := true, slotNames := sn, subclasses := sub, abstract := ab, collection := col, hasDel := false } := by unfold PySem.W.clsIn; rw [hC] <;> rfl
  have hsup := SC.sup
  unfold PySem.W.ks_superIn at hsup
  rw [hcls] at hsup
  show _root_.PySem.wpAt (model P w) (A.deeper (envF ⟨"__init__", qual, defArgs st, defBody st, defScope st, [("__class__", cc)], cda⟩ f hp0.objs.size)) (.func (defBody st) (envF ⟨"__init__", qual, defArgs st, defBody st, defScope st, [("__class__", cc)], cda⟩ f hp0.objs.size))
    (execs (defBody st) (envF ⟨"__init__", qual, defArgs st, defBody st, defScope st, [("__class__", cc)], cda⟩ f hp0.objs.size)) _ _ _
  rw [hbody]
  have X1 : ∀ {b o}, K.lookup b = some o → h₁.get? b = some o := fun {b o} e => K1 _ _ e
  refine ks_wpAt_execs_cons (ks_wpAt_Expr_any ?_ I.quiet)
  refine ks_wpAt_MethodCall (pl := pure false) ?_ (hcall _)
  refine ks_wpAt_super_base hks hkc (by decide +kernel) rfl (X1 lk) rfl hargs rfl (X1 lc) rfl hv2 hfile htop ?_
  refine PySem.W.ks_loadName_global S.kind hks (Calls.loadGlobal_builtin (I.mod.glob.keeps I.bk) hmg (hb1.keeps I.bk) ((hb2 _ (by decide +kernel)).trans (by decide +kernel : bootBuiltins "super" = some (.type "super"))) ⟨rfl, ?_⟩)
  refine wpAny_loadName_free S.kind hkc rfl ⟨_, X1 lcc, rfl⟩ ?_
  rw [har]
  refine wpAny_loadName_local S.kind hka hns hself ?_
  refine ks_wpAny_isType_cls (X1 hC) rfl ⟨rfl, ?_⟩
  refine ks_wpAny_call_super (X1 hC) rfl hx rfl (fun c e => by cases e) (PySem.W.looks_mroIn K1 SC.me) (fun h2 e2 k2 => ?_)
  have I2 := I.kept (t' := t + (ps.zip us).length) k2
  have K2 : K.In h2 := I2.kIn
  have hx2 := k2 _ _ hx
  have hI : PySem.W.Looks (model P w) h2 (isInstance (.ref a) (.type "ValueError")) true := (PySem.W.InstAt.type (ox := { cls := .ref C, dict := none, data := .fields #[.ref t1, .none, .none, .none, .bool false, .none] }) (od := none) ⟨hx2, rfl, rfl, trivial⟩).andThen (PySem.W.looks_subIn K2 SC.ve)
  have hne : a ≠ C := fun z => by
    rw [z] at hx
    have := X1 hC
    rw [this] at hx
    cases hx
  refine PySem.W.kxs_getMethod PySem.W.kxs_ValueError e2 (PySem.W.looks_opaque K2 SC.tp) (l₀ := .ref C :: bm) ?_ rfl K2 hsup hI hne (by decide +kernel) ?_
  · exact fun A Q E s k q => wpAny_bind ((PySem.W.looks_clsIn K2 hcls) A _ E s k (wpAny_pure q))
  have k3 : ∀ b o, h2.get? b = some o → (h2.push (PySem.W.kxs_mw "ValueError.__init__" a)).get? b = some o := fun b o e => Heap.get?_push_of_some _ e
  have I3 := I2.kept (t' := t + (ps.zip us).length + 1) k3
  refine callWith_mw (i := "ValueError.__init__") (x := a) (Heap.get?_push_size _ rfl) ?_
  refine call_mw (I3.kIn _ _ hC) (k3 _ _ hx2) (Heap.get?_push_size _ rfl) (by show 1 ≤ sizeLine; decide) fun h4 t4 k4 x4 => ?_
  have J := I3.write (t' := t + (ps.zip us).length + 1 + 1) (x := a) (e := a) (o := exo a C none) (by rw [ha]; exact True.intro) (.inl rfl) k4 ⟨_, x4⟩ (exo_ok x4)
  have eu : upd H a (exo a C none) = H := by
    funext b
    by_cases hb : b = a
    · rw [hb, upd_same, ha]
    · rw [upd_ne hb]
  rw [eu] at J
  refine wpAt_of_wpAny ?_
  refine wpAny_mono (htr.run [] _ (startF N (.ref a :: vs') [none]) H _ J hqr) (fun fl s' hs => ?_) fun e s' hs => hs
  have fin : ∀ {σ' : L2.St} {H' : Hp} {v : V} {u : Value}, Inv (cxS CX P w K mg base N qual st f cda cc A outer ⟨hp0, g, d, t, os⟩ H E) [] σ' H' s' → L2.RelV v u → Q v H' → CE outer P w H ⟨hp0, g, d, t, os⟩ Q u s' :=
    fun {σ' H' v u} J rv q => ⟨v, H', J.os, J.bare, J.base, J.hok, rv, q⟩
  cases fl with
  | ret u =>
    obtain ⟨v, σ', H', J, rv, q⟩ := hs
    exact fin J rv q
  | next =>
    obtain ⟨σ', H', J, q⟩ := hs
    exact fin (v := V.non) (u := Value.none) J rfl q
  | brk =>
    obtain ⟨_, _, _, q⟩ := hs
    exact False.elim q
  | cont =>
    obtain ⟨_, _, _, q⟩ := hs
    exact False.elim q
/-- the same while an exception is handled -/
abbrev cxSH (CX : CXT) (P : Program) (w : World) (K : PySem.W.Frag) (mg : Str → Option Value) (base : Heap) (N : List Str) (qual : Str) (st : Stmt) (f cda cc : Addr) (A : Around) (outer : List Env) (s : Shared) (H : Hp) (E : XK) (p : Addr × Obj) : Cx :=
  ncxH CX P w K mg base N ⟨"__init__", qual, defArgs st, defBody st, defScope st, [("__class__", cc)], cda⟩ f A outer s H E p
theorem fn_supH {p0 p1 p2 p3 p4 pc : Pos} {msg : Str} {j : Nat} {rest : List Stmt} {ar : Arg} {qs : List Str} (SF : SupFn P K C qual st f fd) (SC : SupC K C) (hmg : mg "super" = none) (htop : (P.main.scope.names.lookup ("super" : Str)).isSome = false)
    (S : NScope N ps ["__class__"] (defScope st)) (hps : ps = ("self" : Str) :: qs) (hks : (defScope st).names.lookup ("super" : Str) = some .globalImplicit)
    (hargs : ((defArgs st).posonlyargs ++ (defArgs st).args).head? = some ar) (har : ar.arg = "self")
    (hbody : defBody st = .Expr (.Call (.Attribute (.Call (.Name "super" p0) [] [] p1) "__init__" p2) [.Constant (.str msg) j pc] [] p3) p4 :: rest)
    (hcall : ∀ env : Env, eval (.Call (.Attribute (.Call (.Name "super" p0) [] [] p1) "__init__" p2) [.Constant (.str msg) j pc] [] p3) env = (do
      let ov ← attributeBase (.Call (.Name "super" p0) [] [] p1) "__init__" env (eval (.Call (.Name "super" p0) [] [] p1) env)
      standAt p2.atName
      let (f, first) ← holding [ov] (getMethod ov "__init__" (pure false))
      callWith p3 f first (backTo p3 (starEach [.Constant (.str msg) j pc] env)) []))
    (len : ∀ vs H Q E, sp vs H Q E → vs.length = ps.length)
    (hrest : ∀ (cda cc : Addr) (A : Around) (outer : List Env) (s : Shared) (H : Hp) (vs : List V) (Q : VK) (E : XK) (p : Addr × Obj), sp vs H Q E → ∃ (a : Addr) (vs' : List V), vs = .ref a :: vs' ∧ H a = some (exo a C none) ∧
      ∃ t, PSs (cxSH CX P w K mg base N qual st f cda cc A outer s H E p) rest t ∧ t { nx := fun _ H' => Q .non H', rt := Q } (startF N vs [none]) H) :
    FnH P w K mg base CX (k + 1) f fd ps sp := by
  refine ⟨len, fun A outer s H args us vs Q E p hr hot hpin e0 hb r hsp => ?_⟩
  have hl := len _ _ _ _ hsp
  obtain ⟨oc, od, kV, doc, pm, an, cda, cc, ct, osl, rfl, lk, hcd, ⟨ccl, cdd, cvs, ccs, file, tf, lc, hv2, hfile⟩, ⟨cl, cld, csl, lcc⟩⟩ := SF.ex
  obtain ⟨a, vs', rfl, ha, tr, htr, hqr⟩ := hrest cda cc A outer s H vs Q E p hsp
  have KX : K.In s.heap := e0.mod.kin.keeps fun b o e => (e0.bs b o e).1
  have lim : s.heap.NoLimit := e0.mod.nolimit.keeps fun b o e => (e0.bs b o e).1
  have C0 : CellsAt [("__class__", cc)] ["__class__"] [none] s.heap H := by
    refine ⟨rfl, fun y c e => ?_, fun x y c e1 e2 => ?_, fun i y e => ?_⟩
    · have hc : c = cc := by
        have m := PySem.mem_of_lookup e
        simp at m
        exact m.2
      subst hc
      exact ⟨(e0.bs c _ (e0.mod.kin _ _ lcc)).2, _, _, KX _ _ lcc, rfl⟩
    · have m1 := PySem.mem_of_lookup e1
      have m2 := PySem.mem_of_lookup e2
      simp at m1 m2
      rw [m1.1, m2.1]
    · cases i with
      | zero =>
        obtain rfl : ("__class__" : Str) = y := by simpa using e
        exact ⟨cc, rfl, fun v e => by simp at e⟩
      | succ i => simp at e
  obtain ⟨hp0, g, d, t, os⟩ := s
  refine ks_codeAny_call_defAt hr.depth (KX _ _ lk) rfl lim (PySem.W.codeRec_of KX hcd) rfl hb S.nocell (fun ⟨n, _⟩ hy => S.par n (List.of_mem_zip hy).1) (fun h₁ hns kp => ?_) S.co S.gen S.kind
  have I : Inv (cxSH CX P w K mg base N qual st f cda cc A outer ⟨hp0, g, d, t, os⟩ H E p) [] (startF N (.ref a :: vs') [none]) H ⟨h₁, g, d, t + (ps.zip us).length, os⟩ := inv_startNH S hpin e0 hl r C0 hns kp
  have K1 : K.In h₁ := I.kIn
  have hself : (ps.zip us).reverse.lookup ("self" : Str) = some (Value.ref a) := by
    cases r with
    | @cons _ u0 _ ur ra rw' =>
      obtain rfl : u0 = Value.ref a := ra
      have ndP : ps.Nodup := by
        have q := S.nd.sublist (List.take_sublist (ps.length + 1) N)
        have pr := S.pre
        rw [show ([("__class__" : Str)] : List Str).length = 1 from rfl] at pr
        rw [pr] at q
        exact (List.nodup_append.mp q).1
      exact zip_look (i := 0) ndP (by rw [hps]; rfl) rfl
  have hkc : (defScope st).names.lookup ("__class__" : Str) = some .free := S.frk _ (List.mem_singleton.mpr rfl)
  have hka : (defScope st).names.lookup ("self" : Str) = some .local := S.par _ (by rw [hps]; exact List.mem_cons_self ..)
  obtain ⟨mb, hb1, hb2⟩ := I.mod.blt
  obtain ⟨nm, q, NN, bs, bm, sn, sub, ab, col, dd, k0, k1, k2, k3, k5, hC, hbm⟩ := SC.ox.cls
  obtain ⟨t1, hx⟩ := exo_at I.hok ha
  have hcls : PySem.W.clsIn K C = some { name := nm, bases := bs, mro := .ref C :: bm, ns := NN, qualname := q, hasDict := true, slotNames := sn, subclasses := sub, abstract := ab, collection := col, hasDel := false } := by unfold PySem.W.clsIn; rw [hC] <;> rfl
  have hsup := SC.sup
  unfold PySem.W.ks_superIn at hsup
  rw [hcls] at hsup
  show _root_.PySem.wpAt (model P w) (A.deeper (envF ⟨"__init__", qual, defArgs st, defBody st, defScope st, [("__class__", cc)], cda⟩ f hp0.objs.size)) (.func (defBody st) (envF ⟨"__init__", qual, defArgs st, defBody st, defScope st, [("__class__", cc)], cda⟩ f hp0.objs.size))
    (execs (defBody st) (envF ⟨"__init__", qual, defArgs st, defBody st, defScope st, [("__class__", cc)], cda⟩ f hp0.objs.size)) _ _ _
  rw [hbody]
  have X1 : ∀ {b o}, K.lookup b = some o → h₁.get? b = some o := fun {b o} e => K1 _ _ e
  refine ks_wpAt_execs_cons (ks_wpAt_Expr_any ?_ I.quiet)
  refine ks_wpAt_MethodCall (pl := pure false) ?_ (hcall _)
  refine ks_wpAt_super_base hks hkc (by decide +kernel) rfl (X1 lk) rfl hargs rfl (X1 lc) rfl hv2 hfile htop ?_
  refine PySem.W.ks_loadName_global S.kind hks (Calls.loadGlobal_builtin (I.mod.glob.keeps I.bk) hmg (hb1.keeps I.bk) ((hb2 _ (by decide +kernel)).trans (by decide +kernel : bootBuiltins "super" = some (.type "super"))) ⟨rfl, ?_⟩)
  refine wpAny_loadName_free S.kind hkc rfl ⟨_, X1 lcc, rfl⟩ ?_
  rw [har]
  refine wpAny_loadName_local S.kind hka hns hself ?_
  refine ks_wpAny_isType_cls (X1 hC) rfl ⟨rfl, ?_⟩
  refine ks_wpAny_call_super (X1 hC) rfl hx rfl (fun c e => by cases e) (PySem.W.looks_mroIn K1 SC.me) (fun h2 e2 k2 => ?_)
  have I2 := I.kept (t' := t + (ps.zip us).length) k2
  have K2 : K.In h2 := I2.kIn
  have hx2 := k2 _ _ hx
  have hI : PySem.W.Looks (model P w) h2 (isInstance (.ref a) (.type "ValueError")) true := (PySem.W.InstAt.type (ox := { cls := .ref C, dict := none, data := .fields #[.ref t1, .none, .none, .none, .bool false, .none] }) (od := none) ⟨hx2, rfl, rfl, trivial⟩).andThen (PySem.W.looks_subIn K2 SC.ve)
  have hne : a ≠ C := fun z => by
    rw [z] at hx
    have := X1 hC
    rw [this] at hx
    cases hx
  refine PySem.W.kxs_getMethod PySem.W.kxs_ValueError e2 (PySem.W.looks_opaque K2 SC.tp) (l₀ := .ref C :: bm) ?_ rfl K2 hsup hI hne (by decide +kernel) ?_
  · exact fun A Q E s k q => wpAny_bind ((PySem.W.looks_clsIn K2 hcls) A _ E s k (wpAny_pure q))
  have k3 : ∀ b o, h2.get? b = some o → (h2.push (PySem.W.kxs_mw "ValueError.__init__" a)).get? b = some o := fun b o e => Heap.get?_push_of_some _ e
  have I3 := I2.kept (t' := t + (ps.zip us).length + 1) k3
  refine callWith_mw (i := "ValueError.__init__") (x := a) (Heap.get?_push_size _ rfl) ?_
  refine call_mw (I3.kIn _ _ hC) (k3 _ _ hx2) (Heap.get?_push_size _ rfl) (by show 1 ≤ sizeLine; decide) fun h4 t4 k4 x4 => ?_
  have J := I3.write (t' := t + (ps.zip us).length + 1 + 1) (x := a) (e := a) (o := exo a C none) (by rw [ha]; exact True.intro) (.inl rfl) k4 ⟨_, x4⟩ (exo_ok x4)
  have eu : upd H a (exo a C none) = H := by
    funext b
    by_cases hb : b = a
    · rw [hb, upd_same, ha]
    · rw [upd_ne hb]
  rw [eu] at J
  refine wpAt_of_wpAny ?_
  refine wpAny_mono (htr.run [] _ (startF N (.ref a :: vs') [none]) H _ J hqr) (fun fl s' hs => ?_) fun e s' hs => hs
  have fin : ∀ {σ' : L2.St} {H' : Hp} {v : V} {u : Value}, Inv (cxSH CX P w K mg base N qual st f cda cc A outer ⟨hp0, g, d, t, os⟩ H E p) [] σ' H' s' → L2.RelV v u → Q v H' → CE outer P w H ⟨hp0, g, d, t, os⟩ Q u s' :=
    fun {σ' H' v u} J rv q => ⟨v, H', J.os, J.bare, J.base, J.hok, rv, q⟩
  cases fl with
  | ret u =>
    obtain ⟨v, σ', H', J, rv, q⟩ := hs
    exact fin J rv q
  | next =>
    obtain ⟨σ', H', J, q⟩ := hs
    exact fin (v := V.non) (u := Value.none) J rfl q
  | brk =>
    obtain ⟨_, _, _, q⟩ := hs
    exact False.elim q
  | cont =>
    obtain ⟨_, _, _, q⟩ := hs
    exact False.elim q
end
/-! ### the three that fields are stored in -/
abbrev s_badLots : Stmt := inClass (top 10) 0
abbrev n_badLots : List Str := ["self", "at", "__class__"]
theorem sc_badLots : NScope n_badLots ["self", "at"] ["__class__"] (defScope s_badLots) := nscope_by (by decide +kernel)
abbrev s_badText : Stmt := inClass (top 11) 0
abbrev n_badText : List Str := ["self", "text", "__class__"]
theorem sc_badText : NScope n_badText ["self", "text"] ["__class__"] (defScope s_badText) := nscope_by (by decide +kernel)
abbrev s_tooMany : Stmt := inClass (top 12) 0
abbrev n_tooMany : List Str := ["self", "what", "limit", "__class__"]
theorem sc_tooMany : NScope n_tooMany ["self", "what", "limit"] ["__class__"] (defScope s_tooMany) := nscope_by (by decide +kernel)
/-- one field -/
def spX1 (C : Addr) (n : Str) : Sp := fun vs H Q _ => ∃ (a : Addr) (y : V), vs = [.ref a, y] ∧ H a = some (exo a C none) ∧ ∀ dx, H dx = none → dx ≠ a → Q .non (upd (upd H dx (exd dx [(n, y)])) a (exo a C (some dx)))
def spX2 (C : Addr) (n m : Str) : Sp := fun vs H Q _ => ∃ (a : Addr) (y z : V), vs = [.ref a, y, z] ∧ H a = some (exo a C none) ∧ ∀ dx, H dx = none → dx ≠ a → Q .non (upd (upd (upd H dx (exd dx [(n, y)])) a (exo a C (some dx))) dx (exd dx [(m, z), (n, y)]))
section
variable {CX : CXT} {P : Program} {w : World} {K : PySem.W.Frag} {mg : Str → Option Value} {base : Heap} {k : Nat} {f C : Addr} {fd : FuncData}
theorem ok_badLots (SF : SupFn P K C "BadLots.__init__" s_badLots f fd) (SC : SupC K C) (hn : PySem.W.findIn K (.ref C) "at" = some none) (hmg : mg "super" = none) (htop : (P.main.scope.names.lookup ("super" : Str)).isSome = false) :
    FnOk P w K mg base CX (k + 1) f fd ["self", "at"] (spX1 C "at") := by
  refine fn_sup SF SC hmg htop sc_badLots rfl (by decide +kernel) rfl rfl rfl (fun _ => rfl) (fun vs H Q E h => ?_) (fun cda cc A outer s H vs Q E h => ?_)
  · obtain ⟨a, y, rfl, _⟩ := h
    rfl
  · obtain ⟨a, y, rfl, ha, q⟩ := h
    exact ⟨a, _, rfl, ha, _, pss_one (ps_ost (pv 0) (pv 1)), y, rfl, .ref a, rfl, a, C, rfl, SC.ox, hn, .inl ⟨ha, q⟩⟩
theorem ok_badText (SF : SupFn P K C "BadText.__init__" s_badText f fd) (SC : SupC K C) (hn : PySem.W.findIn K (.ref C) "text" = some none) (hmg : mg "super" = none) (htop : (P.main.scope.names.lookup ("super" : Str)).isSome = false) :
    FnOk P w K mg base CX (k + 1) f fd ["self", "text"] (spX1 C "text") := by
  refine fn_sup SF SC hmg htop sc_badText rfl (by decide +kernel) rfl rfl rfl (fun _ => rfl) (fun vs H Q E h => ?_) (fun cda cc A outer s H vs Q E h => ?_)
  · obtain ⟨a, y, rfl, _⟩ := h
    rfl
  · obtain ⟨a, y, rfl, ha, q⟩ := h
    exact ⟨a, _, rfl, ha, _, pss_one (ps_ost (pv 0) (pv 1)), y, rfl, .ref a, rfl, a, C, rfl, SC.ox, hn, .inl ⟨ha, q⟩⟩
theorem hot_badText (SF : SupFn P K C "BadText.__init__" s_badText f fd) (SC : SupC K C) (hn : PySem.W.findIn K (.ref C) "text" = some none) (hmg : mg "super" = none) (htop : (P.main.scope.names.lookup ("super" : Str)).isSome = false) :
    FnH P w K mg base CX (k + 1) f fd ["self", "text"] (spX1 C "text") := by
  refine fn_supH SF SC hmg htop sc_badText rfl (by decide +kernel) rfl rfl rfl (fun _ => rfl) (fun vs H Q E h => ?_) (fun cda cc A outer s H vs Q E p h => ?_)
  · obtain ⟨a, y, rfl, _⟩ := h
    rfl
  · obtain ⟨a, y, rfl, ha, q⟩ := h
    exact ⟨a, _, rfl, ha, _, pss_one (ps_ost (pv 0) (pv 1)), y, rfl, .ref a, rfl, a, C, rfl, SC.ox, hn, .inl ⟨ha, q⟩⟩
theorem ok_tooMany (SF : SupFn P K C "TooMany.__init__" s_tooMany f fd) (SC : SupC K C) (hn : PySem.W.findIn K (.ref C) "what" = some none) (hn2 : PySem.W.findIn K (.ref C) "limit" = some none) (hmg : mg "super" = none) (htop : (P.main.scope.names.lookup ("super" : Str)).isSome = false) :
    FnOk P w K mg base CX (k + 1) f fd ["self", "what", "limit"] (spX2 C "what" "limit") := by
  refine fn_sup SF SC hmg htop sc_tooMany rfl (by decide +kernel) rfl rfl rfl (fun _ => rfl) (fun vs H Q E h => ?_) (fun cda cc A outer s H vs Q E h => ?_)
  · obtain ⟨a, y, z, rfl, _⟩ := h
    rfl
  · obtain ⟨a, y, z, rfl, ha, q⟩ := h
    refine ⟨a, _, rfl, ha, _, pss_cons (ps_ost (pv 0) (pv 1)) (pss_one (ps_ost (pv 0) (pv 2))), y, rfl, .ref a, rfl, a, C, rfl, SC.ox, hn, .inl ⟨ha, fun dx n ne => ?_⟩⟩
    refine ⟨z, rfl, .ref a, rfl, a, C, rfl, SC.ox, hn2, .inr ⟨dx, _, upd_same, by rw [upd_ne ne]; exact upd_same, by show 1 ≤ 900; decide, q dx n ne⟩⟩
end
end Kw

set_option maxHeartbeats 4000000
/-! E2: our exceptions, made. -/
namespace Kw
open PySem PySem.Spec PyProof.Rows L2 L2H
open C8 (Cal)
section
variable {H1 : Hp} {C : Addr} {n m : Str} {y z : V} {Q E : XK}
theorem xd_heap {a dx : Addr} {o1 o2 : HO} {u1 u2 : HO} (na : H1 a = none) (ne : dx ≠ a) : upd (del (upd (upd (upd H1 a o1) dx u1) a o2) a) dx u2 = upd H1 dx u2 := by
  funext b
  by_cases hb : b = dx
  · rw [hb, upd_same, upd_same]
  · rw [upd_ne hb, upd_ne hb]
    by_cases hc : b = a
    · rw [hc, del_same, na]
    · rw [del_ne hc, upd_ne hc, upd_ne hb, upd_ne hc]
/-- one field: what its making asks -/
theorem mkX1 (h : ∀ d, H1 d = none → Q (.ref C) (some d) (upd H1 d (.xd [(n, y)]))) : [y].length ≤ 1000 ∧ ∀ a, H1 a = none → spX1 C n (.ref a :: ([y] ++ [])) (upd H1 a (exo a C none))
    (fun v H2 => v = .non ∧ ∃ (d : Addr) (fs : List (Str × V)), H2 a = some (exo a C (some d)) ∧ H2 d = some (exd d fs) ∧ H1 d = none ∧ Q (.ref C) (some d) (upd (del H2 a) d (.xd fs))) E := by
  refine ⟨by show 1 ≤ 1000; decide, fun a na => ⟨a, y, rfl, upd_same, fun dx ndx ne => ⟨rfl, dx, [(n, y)], upd_same, by rw [upd_ne ne]; exact upd_same, by rw [upd_ne ne] at ndx; exact ndx, ?_⟩⟩⟩
  rw [upd_ne ne] at ndx
  rw [xd_heap na ne]
  exact h dx ndx
/-- two -/
theorem mkX2 (h : ∀ d, H1 d = none → Q (.ref C) (some d) (upd H1 d (.xd [(m, z), (n, y)]))) : [y, z].length ≤ 1000 ∧ ∀ a, H1 a = none → spX2 C n m (.ref a :: ([y, z] ++ [])) (upd H1 a (exo a C none))
    (fun v H2 => v = .non ∧ ∃ (d : Addr) (fs : List (Str × V)), H2 a = some (exo a C (some d)) ∧ H2 d = some (exd d fs) ∧ H1 d = none ∧ Q (.ref C) (some d) (upd (del H2 a) d (.xd fs))) E := by
  refine ⟨by show 2 ≤ 1000; decide, fun a na => ⟨a, y, z, rfl, upd_same, fun dx ndx ne => ⟨rfl, dx, [(m, z), (n, y)], by rw [upd_ne ne.symm]; exact upd_same, upd_same, by rw [upd_ne ne] at ndx; exact ndx, ?_⟩⟩⟩
  rw [upd_ne ne] at ndx
  have e : upd (del (upd (upd (upd (upd H1 a (exo a C none)) dx (exd dx [(n, y)])) a (exo a C (some dx))) dx (exd dx [(m, z), (n, y)])) a) dx (.xd [(m, z), (n, y)]) = upd H1 dx (.xd [(m, z), (n, y)]) := by
    funext b
    by_cases hb : b = dx
    · rw [hb, upd_same, upd_same]
    · rw [upd_ne hb, upd_ne hb]
      by_cases hc : b = a
      · rw [hc, del_same, na]
      · rw [del_ne hc, upd_ne hb, upd_ne hc, upd_ne hb, upd_ne hc]
  rw [e]
  exact h dx ndx
end
section
variable {X : Cx}
/-- C(), the class without an __init__ -/
theorem pmk_own0 {C : Addr} {bmB : List Value} {B newId initId : String} {x : Str} {p pos : Pos} (F : ExcBaseFacts B newId initId bmB) (q : PySem.W.excIn X.K C bmB newId = true) (gC : X.mg x = some (.ref C)) (kC : PySem.W.keepIn X.K (.ref C) = true) (r : Raises X (.ref C)) (hg : Gl X x)
    (hdb : (x == ("__debug__" : Str)) = false := by decide) : PMk X (.Call (.Name x p) [] [] pos) (fun _ H Q => Q (.ref C) none H) := by
  intro pins s σ H Q I h
  refine wpAny_Call_Name_kw (ld_glob I hg gC ?_ hdb)
  refine PySem.W.callWith_K0 I.kIn kC ?_
  obtain ⟨bm, N, nm, qn, bs, hdct, sn, sub, ab, col, dd, k0, k1, k2, k3, k5, mN, hC, hN, hni, T⟩ := exc_obj I.kIn q
  refine wpAny_call_exc_subT F T hC hN hni (fun h' e hm => ?_) (Nat.zero_le _)
  exact mk_of I hm r h (I.hok.gone hm.new)
/-- C(e, ..), calm; its context is none -/
theorem pmkN_oex {CX : CXT} {x : Str} {e : Expr} {es : List Expr} {ta : TA} {p pos : Pos} {C fI : Addr} {k : Nat} {fd : FuncData} {ps : List Str} {sp : Sp} (T : OexC X.K C) (iC : PySem.W.findIn X.K (.ref C) "__init__" = some (some (.ref fI))) (tI : PySem.W.typeIn X.K (.ref fI) = some (.type "function"))
    (F1 : FnOk X.prog X.w X.K X.mg X.base CX k fI fd ps sp) (hr : Room (k + 1) X.A) (hb : Binds X.K fd ps []) (hx : Passes CX X (fun _ _ _ => False)) (hg : Gl X x) (hm : X.mg x = some (.ref C)) (ha : PA X (e :: es) ta)
    (hdb : (x == ("__debug__" : Str)) = false := by decide) (he : starEach (e :: es) X.env = (false, eval e X.env) :: starEach es X.env := by rfl) (hpl : (backTo pos (starEach es X.env)).any (·.1) = false := by rfl) :
    L2N.PMk X (.Call (.Name x p) (e :: es) [] pos) (tMkO C sp [] ta) := by
  intro pins s σ H Q I h
  obtain ⟨nm, q, N, bs, bm, sn, sub, ab, col, dd, k0, k1, k2, k3, k5, hC, hbm⟩ := T.cls
  refine wpAny_Call_Name_kw (ld_glob I hg hm ?_ hdb)
  refine PySem.W.callWith_K (h₀ := X.base) I.ok.mod.kin T.kC (thn (ha.run pos pins s σ H _ I h) fun us s1 ⟨vs, H1, I1, r1, hz, q1⟩ => ⟨I1.kIn, ?_⟩) he hpl
  show wpAny _ _ (call (.ref C) us) _ _ _
  obtain ⟨hp, g, dr, tk, os⟩ := s1
  have hsz : hp.objs.size ≤ hp.objs.size + 1 := Nat.le_succ _
  have hn : H1 (hp.objs.size + 1) = none := I1.hok.fresh hsz
  have hq := q1 (hp.objs.size + 1) hn
  have kk : ∀ b o, hp.get? b = some o → ((hp.push (PySem.W.kdv_tup us)).push (PySem.HandSPX.excO C hp.objs.size)).get? b = some o := fun b o e => Heap.get?_push_of_some _ (Heap.get?_push_of_some _ e)
  have hget : ((hp.push (PySem.W.kdv_tup us)).push (PySem.HandSPX.excO C hp.objs.size)).get? (hp.objs.size + 1) = some (PySem.HandSPX.excO C hp.objs.size) := by heap_get
  have I2 : Inv X pins σ (upd H1 (hp.objs.size + 1) (exo (hp.objs.size + 1) C none)) ⟨(hp.push (PySem.W.kdv_tup us)).push (PySem.HandSPX.excO C hp.objs.size), g, dr, tk, os⟩ :=
    I1.laid (t' := tk) (a := hp.objs.size + 1) (o := exo (hp.objs.size + 1) C none) (h' := (hp.push (PySem.W.kdv_tup us)).push (PySem.HandSPX.excO C hp.objs.size)) kk hsz (exo_ok hget)
  rw [List.append_nil] at hq
  have r2 : Vals (V.ref (hp.objs.size + 1) :: vs) (Value.ref (hp.objs.size + 1) :: us) := .cons rfl r1
  have hl : (Value.ref (hp.objs.size + 1) :: us ++ []).length = ps.length := by
    have e := r2.length
    rw [F1.len _ _ _ _ hq] at e
    rw [List.append_nil]
    exact e.symm
  have b2 := hb _ (Value.ref (hp.objs.size + 1) :: us) I2.kIn hl
  rw [List.append_nil] at b2
  have hus : us.length ≤ sizeLine := by
    rw [← Paired.length r1, sizeLine_eq]
    omega
  refine wpAny_call (PySem.HandSPX.call_own F.excBase_ValueError (fun Y => PySem.HandSPX.refsVE_contains Y bm hbm) (I1.kIn _ _ hC) (PySem.W.looks_findIn I1.kIn iC) (fun self => PySem.W.bind_fn I1.kIn self tI) hus
    (codeAny_mono (F1.run _ X.stack _ _ ⟨Value.ref (hp.objs.size + 1) :: us, []⟩ (Value.ref (hp.objs.size + 1) :: us) _ _ (fun _ _ _ => False) (hr.make C us []) (I2.env0.make C us []) b2 r2 hq) fun r s' hq' => ?_))
  cases r with
  | error er => exact hx pins σ _ _ er s' I2 hq'
  | ok fl =>
    cases fl with
    | ret u =>
      obtain ⟨v, H2, os2, bare2, un2, hok2, rv, ev, d, fs, ea, ed, hd1, q2⟩ := hq'
      subst ev
      obtain ⟨h2, g2, d2, t2, os'⟩ := s'
      obtain ⟨t0, G, J, kG, ge, hoe, na⟩ := mk_end0 (d2 := d2) (t2 := t2) I1 hsz kk un2 hok2 os2 bare2 ea ed hd1
      refine ⟨rv, hp.objs.size + 1, _, _, ⟨G, g2, d2, t2, os'⟩, _, .ref C, some d, rfl, J, kG, ge, hoe, ⟨rfl, rfl, fun vs hv => ?_⟩, rfl, rfl, na, rfl, bare2, raises_own T.exC T.tyC, q2⟩
      cases hv
      rfl
    | next => exact False.elim hq'
    | brk => exact False.elim hq'
    | cont => exact False.elim hq'
end
end Kw

set_option maxHeartbeats 4000000
/-! E3: a def that is called with the exception that is handled. -/
namespace Kw
open PySem PySem.Spec PyProof.Rows L2 L2H
open C8 (Cal)
section
open PySem.W
variable {prog : Program} {w : World} {A : Around} {E : Value → Shared → Prop} {s : Shared} {K : Frag} {x D : Addr} {ox : Obj} {od : Option Obj}
theorem find_class (C : ExcC K D) : findObj K D od "__class__" = some (.bind (.builtin "getset_descriptor.__get__") (.builtin "object.__class__")) := by
  have ic : (clsIn K D).isSome = true := by
    obtain ⟨cd, hc, _⟩ := any_some C.hd
    rw [hc]; rfl
  cases od with
  | none => exact findObj_dataN ic C.ha C.hn C.ht
  | some o => exact findObj_data ic C.ha C.hn C.ht
theorem kin_classD {Q : Option Value → Shared → Prop} (C : ExcC K D) (X : K.In s.heap) (I : InstAt s.heap x ox D od) (h : Q (some (.ref D)) { s with toks := s.toks + 1 }) : wpAny (model prog w) A (getAttr? (.ref x) "__class__") Q E s := by
  have hf := find_class (od := od) C
  obtain ⟨hp, g, d, t, os⟩ := s
  have L0 := I.type (M := model prog w)
  have L1 := looks_findIn (M := model prog w) X C.hg
  have L2 := looks_findIn (M := model prog w) X C.hk
  have L3 := looks_find (M := model prog w) X I hf
  have sub : Looks (model prog w) hp (isInstance (.ref x) (.type "BaseException")) true := L0.andThen (looks_subIn X C.hs)
  have hx0 : (false && onTheHeap (Value.builtin "BaseException.__getattribute__")) = false := rfl
  have hx2 : (Value.builtin "BaseException.__getattribute__" == Value.builtin "object.__getattribute__") = false := by decide +kernel
  have hx1 : (onTheHeap (Value.ref D) && Value.builtin "BaseException.__getattribute__" == Value.builtin "object.__getattribute__") = false := by rw [hx2]; rfl
  unfold getAttr? getAttrBy? getAttrBy
  refine wpAny_bind (wpAny_mkText (wpAny_bind (wpAny_attempt (wpAny_holding (wpAny_bind (L0.at (wpAny_bind (L1.at ?_))))))))
  show wpAny _ _ (if (onTheHeap (Value.ref D) && Value.builtin "BaseException.__getattribute__" == Value.builtin "object.__getattribute__") = true then _ else _) _ _ _
  rw [hx1, if_neg Bool.false_ne_true]
  unfold getAttrByItsOwn hookBefore
  refine wpAny_bind ?_
  rw [if_pos (show onTheHeap (Value.ref D) = true from rfl)]
  refine L2.at ?_
  refine wpAny_bind (wpAny_attempt (wpAny_holding ?_))
  unfold callGetattribute
  rw [hx0, if_neg Bool.false_ne_true]
  unfold boundAndCalled
  rw [PySem.F.excAttr_ValueError.ga.bind (.ref x)]
  refine wpAny_bind (wpAny_pure ?_)
  show wpAny _ _ (call (.builtin "BaseException.__getattribute__") [.ref x, .str "__class__" t]) _ _ _
  refine wpAny_call (codeAny_call_builtin PySem.F.excAttr_ValueError.ga.plain PySem.F.entry_bexc_ga ?_)
  refine @check_slot (model prog w) _ _ ⟨hp, g, d, t + 1, os⟩ "BaseException.__getattribute__" "BaseException" "__getattribute__" (.ref x) [.str "__class__" t] [] _ (by decide +kernel) (by decide +kernel) sub (PySem.F.args_bexc_ga (.ref x) (.str "__class__" t)) ?_
  unfold Builtin.«object.__getattribute__»
  refine wpAny_bind (wpAny_of_eq (a := ((Value.ref x : Value), [Value.str "__class__" t])) (by first | rfl | (simp only [slotArgs]; rfl)) ?_)
  refine wpAny_bind (wpAny_pure (wpAny_bind (L0.at (wpAny_bind (L3.at ?_)))))
  show wpAny _ _ (holding [Value.builtin "object.__class__"] (call (.builtin "getset_descriptor.__get__") [.builtin "object.__class__", .ref x, .ref D]) >>= ret) _ _ _
  refine wpAny_bind (wpAny_holding (wpAny_call (class_get (s := ⟨hp, g, d, t + 1, os⟩) (ox := ox) (od := od) X I C.hm ?_)))
  refine wpAny_pure ?_
  show wpAny _ _ (handedOut (.ref D)) _ _ _
  rw [handedOut_of (v := .ref D) rfl]
  first
    | exact wpAny_pure (wpAny_pure h)
    | exact wpAny_pure h
    | exact wpAny_pure (wpAny_bind (wpAny_pure (wpAny_pure h)))
theorem kitx_excD (C : ExcC K D) : KitX K (.ref x) (.ref D) (fun h => InstAt h x ox D od) where
  ty := fun _ _ _ I => I.type
  it := fun _ _ X _ => by
    obtain ⟨cdD, hcD, _⟩ := any_some C.hd
    unfold clsIn at hcD
    split at hcD
    · rename_i c' d' cd' sl' ho
      intro A' Q' E' s' k q
      unfold isType loadHead
      exact wpAny_bind (wpAny_loadPart (k _ _ (X _ _ ho)) (wpAny_pure q))
    · cases hcD
  ne := fun h tp dd its n sl X htp => by
    obtain ⟨cdD, hcD, _⟩ := any_some C.hd
    refine Bool.eq_false_iff.mpr fun q => ?_
    have e : D = tp := Value.ref.inj (beq_iff_eq.mp q)
    subst e
    unfold clsIn at hcD
    split at hcD
    · rename_i c' d' cd' sl' ho
      have z := (X _ _ ho).symm.trans htp
      cases z
    · cases hcD
  ca := fun X I k => kin_classD C X I k
end
/-- the dict stands (where there is one) -/
def DictOk (H : Hp) (d : Option Addr) (fs : List (Str × V)) : Prop := ∀ dd, d = some dd → H dd = some (.xd fs)
theorem DictOk.same {H H' : Hp} {d : Option Addr} {fs : List (Str × V)} (e : Same H H') (h : DictOk H d fs) : DictOk H' d fs := fun dd hd => e _ _ (h dd hd)
section
variable {X : Cx} {p : Addr × Obj} {D : Addr} {d : Option Addr}
theorem inst_pin {pins : List (Addr × Obj)} {σ : L2.St} {H : Hp} {s : Shared} {fs : List (Str × V)} (hp : p ∈ X.pn) (hz : Zc (.ref D) d p.2) (hf : ∃ vs, p.2.data = .fields vs) (I : Inv X pins σ H s) (ok : DictOk H d fs) :
    ∃ od, PySem.W.InstAt s.heap p.1 p.2 D od ∧ ∀ dd, d = some dd → ∃ o mA, od = some o ∧ s.heap.Ns1 dd mA ∧ (∀ f, RelO (fs.lookup f) (mA f)) ∧ s.heap.get? dd = some o := by
  obtain ⟨hget, _⟩ := I.pin p (List.mem_append.mpr (.inl hp))
  obtain ⟨vs, hv⟩ := hf
  cases d with
  | none =>
    refine ⟨none, ?_, fun dd e => nomatch e⟩
    exact ⟨hget, hz.1, by unfold PySem.W.notCls; rw [hv] <;> rfl, by rw [hz.2]; trivial⟩
  | some dd =>
    have hx : ObjOk X.prog X.w H s.heap dd (.xd fs) := I.hok dd _ (ok dd rfl)
    obtain ⟨mA, hns, hr⟩ := hx
    obtain ⟨od, ho, hl⟩ := lookIn_ns hns
    refine ⟨some od, ⟨hget, hz.1, by unfold PySem.W.notCls; rw [hv] <;> rfl, by rw [hz.2]; exact ho⟩, fun d2 e => ?_⟩
    cases e
    exact ⟨od, mA, rfl, hns, hr, ho⟩
def rIsP (K : PySem.W.Frag) (D a : Addr) (d : Option Addr) : List V → Hp → VK → Prop := fun xs H Q => ∃ (c : V) (cv : Value) (b : Bool) (fs : List (Str × V)), xs = [.ref a, c] ∧ (∀ u, RelV c u → u = cv) ∧ PySem.W.kitOne K (.ref D) cv = some b ∧ DictOk H d fs ∧ Q (.bl b) H
theorem call_isP (C : ExcC X.K D) (hp : p ∈ X.pn) (hz : Zc (.ref D) d p.2) (hf : ∃ vs, p.2.data = .fields vs) : CallR X (.builtin "isinstance") (rIsP X.K D p.1 d) := by
  intro pins s σ H xs us Q I r h
  obtain ⟨c, cv, b, fs, rfl, hcv, e, ok, q⟩ := h
  cases r with
  | cons rx rr =>
    cases rr with
    | cons rt rr =>
      cases rr
      cases rx
      have ec := hcv _ rt
      subst ec
      obtain ⟨od, J, _⟩ := inst_pin hp hz hf I ok
      exact PySem.W.kia_one (kitx_excD C) I.kIn J e (fun z => nomatch z) fun tk => ⟨.bl b, H, I.kept (t' := tk) fun _ _ z => z, rfl, q⟩
def tXp (a : Addr) (d : Option Addr) (f : Str) (te : TE) : TE := fun σ H Q => te σ H fun x H1 => x = .ref a ∧ ∃ (dd : Addr) (fs : List (Str × V)) (v : V), d = some dd ∧ H1 dd = some (.xd fs) ∧ fs.lookup f = some v ∧ Q v H1
theorem pe_xp {e : Expr} {te : TE} {pos : Pos} {n : Str} (T : XfC X.K D) (hno : PySem.W.findIn X.K (.ref D) n = some none) (hp : p ∈ X.pn) (hz : Zc (.ref D) d p.2) (hf : ∃ vs, p.2.data = .fields vs) (he : PE X e te) (hb : attributeBase e n X.env (eval e X.env) = eval e X.env := by rfl) :
    PE X (.Attribute e n pos) (tXp p.1 d n te) := by
  refine ⟨fun pins s σ H Q I h => ?_⟩
  refine attr_of hb (thn (he.run pins s σ H _ I h) fun u s1 hh => ?_)
  obtain ⟨x, H1, I1, rx, ex, dd, fs, v, ed, ea, l, q⟩ := hh
  subst ex
  obtain rfl : u = Value.ref p.1 := rx
  subst ed
  obtain ⟨od, J, hd⟩ := inst_pin (fs := fs) hp hz hf I1 (fun d2 e => by cases e; exact ea)
  obtain ⟨o, mA, rfl, hns, hr, ho⟩ := hd dd rfl
  obtain ⟨o2, ho2, hl⟩ := lookIn_ns hns
  rw [ho] at ho2
  obtain rfl := Option.some.inj ho2
  obtain ⟨u, hu, ru⟩ := RelO.some_of (v := v) (o := mA n) (by rw [← l]; exact hr n)
  exact HandSPX.exc_get I1.kIn J T.ga T.gg T.exC (PySem.W.findObj_own T.hdC hno rfl (by rw [hl, hu])) (handed_of ru) ⟨v, H1, I1.tok _, ru, q⟩
end
end Kw

set_option maxHeartbeats 4000000
/-! E4: _law_refusal. -/
namespace Kw
open PySem PySem.Spec PyProof.Rows L2 L2H
open C8 (Cal)
/-- a def called with the exception that is handled: class D, dict d -/
structure FnR (P : Program) (w : World) (K : PySem.W.Frag) (mg : Str → Option Value) (base : Heap) (k : Nat) (f : Addr) (fd : FuncData) (ps : List Str) (D : Addr) (d : Option Addr) (sp : Addr → Sp) : Prop where
  len : ∀ a vs H Q E, sp a vs H Q E → vs.length = ps.length
  run : ∀ (A : Around) (outer : List Env) (s : Shared) (H : Hp) (args : Args) (us : List Value) (vs : List V) (Q : VK) (E : XK) (p : Addr × Obj), RoomH k A → Zc (.ref D) d p.2 → (∃ vs, p.2.data = .fields vs) → PinOk outer H s p → Env0 P w K mg base A outer s H → BindsTo s fd args (ps.zip us) → Vals vs us → sp p.1 vs H Q E →
    codeAny (model P w) A (.call (.ref f) args) (CR L2.CX0 outer P w H s Q E) s
section
variable {P : Program} {w : World} {K : PySem.W.Frag} {mg : Str → Option Value} {base : Heap} {D : Addr} {d : Option Addr}
theorem fn_ofR {k : Nat} {f : Addr} {x qual : Str} {st : Stmt} {fd : FuncData} {N ps : List Str} {sp : Addr → Sp} (F : L2.Fun K x qual st f fd) (S : FnScope N ps (defScope st)) (len : ∀ a vs H Q E, sp a vs H Q E → vs.length = ps.length)
    (hbody : ∀ (cdv : Value) (A : Around) (outer : List Env) (s : Shared) (H : Hp) (vs : List V) (Q : VK) (E : XK) (p : Addr × Obj), RoomH k (A.deeper (envOfC qual (defScope st) s.heap.objs.size f cdv)) → Zc (.ref D) d p.2 → (∃ vs, p.2.data = .fields vs) → sp p.1 vs H Q E →
      ∃ t, PSs (cxH L2.CX0 P w K mg base N qual (defScope st) f cdv A outer s H E p) (defBody st) t ∧ t { nx := fun _ H' => Q .non H', rt := Q } (L2.start N vs) H) : FnR P w K mg base (k + 1) f fd ps D d sp := by
  obtain ⟨oc, od, kV, doc, pm, an, cdv, ct, osl, rfl, lk, hcd⟩ := F.ex
  refine ⟨len, fun A outer s H args us vs Q E p hr hz hf hpin e0 hb r hsp => ?_⟩
  have hl := len _ _ _ _ _ hsp
  have KX : K.In s.heap := e0.mod.kin.keeps fun b o e => (e0.bs b o e).1
  have lim : s.heap.NoLimit := e0.mod.nolimit.keeps fun b o e => (e0.bs b o e).1
  have hkind : ∀ y ∈ ps.zip us, (defScope st).names.lookup y.1 = some .local ∨ ((defScope st).names.lookup y.1 = some .cell ∧ ((cellsFrom (s.heap.objs.size + 1) (defScope st).names []).lookup y.1).isSome = true) := fun ⟨n, v⟩ hy => by
    rcases S.par n (List.of_mem_zip hy).1 with q | q
    · exact .inl q
    · exact .inr ⟨q, PySem.W.cellsFrom_some _ _ _ (.inl q)⟩
  refine codeAny_call_function hr.depth (KX _ _ lk) rfl S.co S.gen rfl (PySem.W.codeRec_of KX hcd) (hb _ _ _ _ ?_)
  refine wpAny_newFunctionEnv_cells S.kind hkind fun env he s1 x => ?_
  subst he
  refine ⟨lim.keeps x.toInCall.keep, codeAny_func ?_⟩
  obtain ⟨t, ht, hq⟩ := hbody cdv A outer s H vs Q E p (hr.deeper _) hz hf hsp
  have I : Inv (cxH L2.CX0 P w K mg base N qual (defScope st) f cdv A outer s H E p) [] (L2.start N vs) H s1 := inv_startH S hpin e0 hl r x
  refine wpAny_mono (ht.run [] s1 (L2.start N vs) H _ I hq) (fun fl s' hs => ?_) fun e s' hs => hs
  have fin : ∀ {σ' : L2.St} {H' : Hp} {v : V} {u : Value}, Inv (cxH L2.CX0 P w K mg base N qual (defScope st) f cdv A outer s H E p) [] σ' H' s' → RelV v u → Q v H' → CE outer P w H s Q u s' :=
    fun {σ' H' v u} J rv q => ⟨v, H', J.os, J.bare, J.base, J.hok, rv, q⟩
  cases fl with
  | ret u =>
    obtain ⟨v, σ', H', J, rv, q⟩ := hs
    exact fin J rv q
  | next =>
    obtain ⟨σ', H', J, q⟩ := hs
    exact fin (v := V.non) (u := Value.none) J rfl q
  | brk =>
    obtain ⟨_, _, _, q⟩ := hs
    exact False.elim q
  | cont =>
    obtain ⟨_, _, _, q⟩ := hs
    exact False.elim q
/-- f(e), e the exception that the suite holds -/
def tCallR (a : Addr) (sp : Addr → Sp) (t : TA) : TE := fun σ H Q => t σ H fun vs H1 => sp a vs H1 Q (fun _ _ _ => False)
theorem pe_callR {X : Cx} {k : Nat} {f : Addr} {fd : FuncData} {ps : List Str} {sp : Addr → Sp} {p : Addr × Obj} {x : Str} {e : Expr} {es : List Expr} {q pos : Pos} {t : TA} (F : FnR X.prog X.w X.K X.mg X.base k f fd ps D d sp) (hr : RoomH k X.A) (hp : p ∈ X.pn) (hz : Zc (.ref D) d p.2) (hf : ∃ vs, p.2.data = .fields vs)
    (hg : Gl X x) (hm : X.mg x = some (.ref f)) (hk : PySem.W.keepIn X.K (.ref f) = true) (hb : Binds X.K fd ps [])
    (ha : PA X (e :: es) t) (hdb : (x == ("__debug__" : Str)) = false := by decide) (he : starEach (e :: es) X.env = (false, eval e X.env) :: starEach es X.env := by rfl) (hpl : (backTo pos (starEach es X.env)).any (·.1) = false := by rfl) :
    PE X (.Call (.Name x q) (e :: es) [] pos) (tCallR p.1 sp t) := by
  refine ⟨fun pins s σ H Q I h => ?_⟩
  refine wpAny_Call_Name_kw (ld_glob I hg hm ?_ hdb)
  refine PySem.W.callWith_K (h₀ := X.base) I.ok.mod.kin hk (thn (ha.run pos pins s σ H _ I h) fun us s1 ⟨vs, H1, I1, r, q⟩ => ⟨I1.kIn, ?_⟩) he hpl
  show wpAny _ _ (call (.ref f) us) _ _ _
  have hl : us.length = ps.length := by rw [← r.length]; exact F.len _ _ _ _ _ q
  have b := hb s1 us I1.kIn (by rw [List.append_nil]; exact hl)
  rw [List.append_nil] at b
  have P1 := I1.pin p (List.mem_append_left _ hp)
  have hpin : PinOk X.stack H1 s1 p := ⟨P1.1, P1.2.1, fun hm => (List.mem_cons.mp (I1.stkSub p.1 hm)).elim P1.2.2.1 P1.2.2.2.1, P1.2.2.2.2⟩
  refine wpAny_call (codeAny_mono (F.run X.A X.stack s1 H1 ⟨us, []⟩ us vs Q _ p hr hz hf hpin I1.env0 b r q) fun r s' hq => ?_)
  cases r with
  | error e => exact hq.elim
  | ok fl =>
    cases fl with
    | ret u => exact I1.after hq
    | next => exact False.elim hq
    | brk => exact False.elim hq
    | cont => exact False.elim hq
end
/-! ### the classes -/
/-- where the classes lie -/
structure Adr where
  CE : Addr
  IE : Addr
  LE : Addr
  AE : Addr
  NP : Addr
  BB : Addr
  BP : Addr
  BL : Addr
  BT : Addr
  TM : Addr
structure AdrG (mg : Str → Option Value) (a : Adr) : Prop where
  CE : mg "CrossError" = some (.ref a.CE)
  IE : mg "InputError" = some (.ref a.IE)
  LE : mg "LimitError" = some (.ref a.LE)
  AE : mg "AnswerError" = some (.ref a.AE)
  NP : mg "NoPlots" = some (.ref a.NP)
  BB : mg "BadLabel" = some (.ref a.BB)
  BP : mg "BadPlot" = some (.ref a.BP)
  BL : mg "BadLots" = some (.ref a.BL)
  BT : mg "BadText" = some (.ref a.BT)
  TM : mg "TooMany" = some (.ref a.TM)
/-- what isinstance says of the class D -/
structure Kit (K : PySem.W.Frag) (a : Adr) (D : Addr) (n t b l i : Bool) : Prop where
  ec : ExcC K D
  xf : XfC K D
  nw : PySem.W.findIn K (.ref D) "what" = some none
  nl : PySem.W.findIn K (.ref D) "limit" = some none
  nt : PySem.W.findIn K (.ref D) "text" = some none
  np : PySem.W.kitOne K (.ref D) (.ref a.NP) = some n
  tm : PySem.W.kitOne K (.ref D) (.ref a.TM) = some t
  bt : PySem.W.kitOne K (.ref D) (.ref a.BT) = some b
  le : PySem.W.kitOne K (.ref D) (.ref a.LE) = some l
  ie : PySem.W.kitOne K (.ref D) (.ref a.IE) = some i
  ae : PySem.W.kitOne K (.ref D) (.ref a.AE) = some false
  bl : PySem.W.kitOne K (.ref D) (.ref a.BL) = some false
  bp : PySem.W.kitOne K (.ref D) (.ref a.BP) = some false
  bb : PySem.W.kitOne K (.ref D) (.ref a.BB) = some false
  ve : PySem.W.kitOne K (.ref D) (.type "ValueError") = some true
/-- (name, args) -/
def Told (H : Hp) (T : Addr) (n : Str) (xs : List V) : Prop := ∃ E : Addr, H T = some (.tup [.str n, .ref E]) ∧ H E = some (.tup xs)
theorem Told.same {H H' : Hp} {T : Addr} {n : Str} {xs : List V} (e : Same H H') : Told H T n xs → Told H' T n xs := fun ⟨E, h1, h2⟩ => ⟨E, e _ _ h1, e _ _ h2⟩
/-- the three refusals -/
inductive Ref3 : List (Str × V) → Bool → Bool → Bool → Bool → Bool → Str → List V → Prop
  | np {fs : List (Str × V)} : Ref3 fs true false false false true "NoPlots" []
  | tm {fs : List (Str × V)} {x y : V} (h1 : fs.lookup ("what" : Str) = some x) (h2 : fs.lookup ("limit" : Str) = some y) : Ref3 fs false true false true false "TooMany" [x, y]
  | bt {fs : List (Str × V)} {x : V} (h1 : fs.lookup ("text" : Str) = some x) : Ref3 fs false false true false true "BadText" [x]
def spRef (d : Option Addr) (n t b l i : Bool) : Addr → Sp := fun a vs H Q _ => ∃ (fs : List (Str × V)) (nm : Str) (xs : List V), vs = [.ref a] ∧ DictOk H d fs ∧ (d = none → nm = "NoPlots") ∧ Ref3 fs n t b l i nm xs ∧ ∀ H' T, Same H H' → H T = none → Told H' T nm xs → Q (.ref T) H'
section
variable {P : Program} {w : World} {K : PySem.W.Frag} {mg : Str → Option Value} {base : Heap} {D : Addr} {d : Option Addr} {a : Adr}
theorem rcls (c : Addr) : ∀ u, RelV (V.ref c) u → u = Value.ref c := fun u h => h
theorem rtyp (n : String) : ∀ u, RelV (V.ty n) u → u = Value.type n := fun u h => h
theorem ok_refusal {f : Addr} {fd : FuncData} {k : Nat} {n t b l i : Bool} (B : Bl mg) (G : AdrG mg a) (Z : Kit K a D n t b l i) (F : L2.Fun K "_law_refusal" "_law_refusal" s_refusal f fd) : FnR P w K mg base (k + 1) f fd ["_law_error"] D d (spRef d n t b l i) := by
  refine fn_ofR F sc_refusal (fun a vs H Q E h => ?_) (fun cdv A outer s H vs Q E p hr hz hf h => ?_)
  · obtain ⟨fs, nm, xs, rfl, _⟩ := h
    rfl
  · obtain ⟨fs, nm, xs, rfl, ok, hd0, R3, q⟩ := h
    refine ⟨_, pss_cons (ps_set (i := 1) sc_refusal.nd rfl (.inl rfl) (pe_lst pa_nil))
      (pss_cons (ps_if (pt_val (pe_callB (call_isP Z.ec (List.mem_singleton.mpr rfl) hz hf) rfl B.isi boot_isi (pa_cons (pv 0) (pa_cons (pe_glob rfl G.NP (v := .ref a.NP) rfl) pa_nil)))) (pss_one (ps_expr (pe_bm PySem.F.plainAttrs_list PySem.F.slot_list_append PySem.F.type_list_append mt_append (pv 1) (pa_cons (pe_tup (pa_cons pe_str (pa_cons (pe_tup pa_nil) pa_nil))) pa_nil)))) pss_nil)
      (pss_cons (ps_if (pt_val (pe_callB (call_isP Z.ec (List.mem_singleton.mpr rfl) hz hf) rfl B.isi boot_isi (pa_cons (pv 0) (pa_cons (pe_glob rfl G.TM (v := .ref a.TM) rfl) pa_nil)))) (pss_one (ps_expr (pe_bm PySem.F.plainAttrs_list PySem.F.slot_list_append PySem.F.type_list_append mt_append (pv 1) (pa_cons (pe_tup (pa_cons pe_str (pa_cons (pe_tup (pa_cons (pe_xp Z.xf Z.nw (List.mem_singleton.mpr rfl) hz hf (pv 0)) (pa_cons (pe_xp Z.xf Z.nl (List.mem_singleton.mpr rfl) hz hf (pv 0)) pa_nil))) pa_nil))) pa_nil)))) pss_nil)
      (pss_cons (ps_if (pt_val (pe_callB (call_isP Z.ec (List.mem_singleton.mpr rfl) hz hf) rfl B.isi boot_isi (pa_cons (pv 0) (pa_cons (pe_glob rfl G.BT (v := .ref a.BT) rfl) pa_nil)))) (pss_one (ps_expr (pe_bm PySem.F.plainAttrs_list PySem.F.slot_list_append PySem.F.type_list_append mt_append (pv 1) (pa_cons (pe_tup (pa_cons pe_str (pa_cons (pe_tup (pa_cons (pe_xp Z.xf Z.nt (List.mem_singleton.mpr rfl) hz hf (pv 0)) pa_nil)) pa_nil))) pa_nil)))) pss_nil)
      (pss_cons (ps_if (PW.pt (pw_or (pt_cmpR op_ne (pe_callB (call_isP Z.ec (List.mem_singleton.mpr rfl) hz hf) rfl B.isi boot_isi (pa_cons (pv 0) (pa_cons (pe_glob rfl G.LE (v := .ref a.LE) rfl) pa_nil))) (pe_callB (call_isP Z.ec (List.mem_singleton.mpr rfl) hz hf) rfl B.isi boot_isi (pa_cons (pv 0) (pa_cons (pe_glob rfl G.TM (v := .ref a.TM) rfl) pa_nil))) (nomark _)) (pw_or1 (pt_val (pe_callB (call_isP Z.ec (List.mem_singleton.mpr rfl) hz hf) rfl B.isi boot_isi (pa_cons (pv 0) (pa_cons (pe_glob rfl G.AE (v := .ref a.AE) rfl) pa_nil))))))) pss_never pss_nil)
      (pss_cons (ps_if (PW.pt (pw_or (pt_val (pe_callB (call_isP Z.ec (List.mem_singleton.mpr rfl) hz hf) rfl B.isi boot_isi (pa_cons (pv 0) (pa_cons (pe_glob rfl G.BL (v := .ref a.BL) rfl) pa_nil)))) (pw_or (pt_val (pe_callB (call_isP Z.ec (List.mem_singleton.mpr rfl) hz hf) rfl B.isi boot_isi (pa_cons (pv 0) (pa_cons (pe_glob rfl G.BP (v := .ref a.BP) rfl) pa_nil)))) (pw_or1 (pt_val (pe_callB (call_isP Z.ec (List.mem_singleton.mpr rfl) hz hf) rfl B.isi boot_isi (pa_cons (pv 0) (pa_cons (pe_glob rfl G.BB (v := .ref a.BB) rfl) pa_nil)))))))) pss_never pss_nil)
      (pss_cons (ps_if (PW.pt (pw_or (pt_not (pt_val (pe_callB (call_isP Z.ec (List.mem_singleton.mpr rfl) hz hf) rfl B.isi boot_isi (pa_cons (pv 0) (pa_cons (pe_bltn rfl B.ve boot_VE (rty _)) pa_nil))))) (pw_or1 (pt_cmpR op_ne (pe_callB call_len_seq (by rfl) B.len boot_len (pa_cons (pv 1) pa_nil)) pe_int (nomark _))))) pss_never pss_nil)
      (pss_cons (ps_if (pt_cmpR op_eq (pe_callB (call_isP Z.ec (List.mem_singleton.mpr rfl) hz hf) rfl B.isi boot_isi (pa_cons (pv 0) (pa_cons (pe_glob rfl G.IE (v := .ref a.IE) rfl) pa_nil))) (pe_callB (call_isP Z.ec (List.mem_singleton.mpr rfl) hz hf) rfl B.isi boot_isi (pa_cons (pv 0) (pa_cons (pe_glob rfl G.LE (v := .ref a.LE) rfl) pa_nil))) (nomark _)) pss_never pss_nil)
      (pss_one (ps_ret (pe_ix ix_list (pv 1) pe_int fun _ _ => rfl)))))))))), ?_⟩
    have key : ∀ (H3 : Hp) (fd T E : Addr), H3 fd = some (.lst [.ref T]) → Same H H3 → H T = none → H3 T = some (.tup [.str nm, .ref E]) → H3 E = some (.tup xs) → Q (.ref T) H3 := fun H3 fd T E h1 h2 h3 h4 h5 => q H3 T h2 h3 ⟨E, h4, h5⟩
    refine ⟨by decide, fun L nL => ?_⟩
    have okL : DictOk (upd H L (.lst [])) d fs := ok.same (same_new nL)
    have sL : Same H (upd H L (.lst [])) := same_new nL
    cases R3 with
    | np =>
      refine ⟨.ref p.1, rfl, .ref a.NP, _, true, fs, rfl, rcls _, Z.np, okL, true, rfl, iteT ?_⟩
      refine ⟨.ref L, rfl, .inl ⟨rfl, _, SqL.of upd_same⟩, by decide, fun E nE => ⟨by show 2 ≤ sizeLine; decide, fun T nT => ?_⟩⟩
      have LE : L ≠ E := ne_of_none upd_same nE
      have LT : L ≠ T := ne_of_none (by rw [upd_ne LE]; exact upd_same) nT
      have ET : E ≠ T := ne_of_none upd_same nT
      have nT0 : H T = none := ((sL.new nE)).free nT
      refine ⟨L, [], .ref T, rfl, rfl, by rw [upd_ne LT, upd_ne LE]; exact upd_same, by show 0 < sizeLine; decide, ?_⟩
      have sF : Same H (upd (upd (upd (upd H L (.lst [])) E (.tup [])) T (.tup [.str "NoPlots", .ref E])) L (.lst ([] ++ [.ref T]))) := ((sL.new nE).new nT).own nL
      have okF := ok.same sF
      have eL : (upd (upd (upd (upd H L (.lst [])) E (.tup [])) T (.tup [.str "NoPlots", .ref E])) L (.lst ([] ++ [.ref T]))) L = some (.lst [.ref T]) := upd_same
      refine ⟨.ref p.1, rfl, .ref a.TM, _, false, fs, rfl, rcls _, Z.tm, okF, false, rfl, iteF ?_⟩
      refine ⟨.ref p.1, rfl, .ref a.BT, _, false, fs, rfl, rcls _, Z.bt, okF, false, rfl, iteF ?_⟩
      refine ⟨.ref p.1, rfl, .ref a.LE, _, false, fs, rfl, rcls _, Z.le, okF, .ref p.1, rfl, .ref a.TM, _, false, fs, rfl, rcls _, Z.tm, okF, rfl, ?_⟩
      refine ⟨_, rfl, iteF ⟨.ref p.1, rfl, .ref a.AE, _, false, fs, rfl, rcls _, Z.ae, okF, false, rfl, iteF ?_⟩⟩
      refine ⟨.ref p.1, rfl, .ref a.BL, _, false, fs, rfl, rcls _, Z.bl, okF, false, rfl, iteF ⟨.ref p.1, rfl, .ref a.BP, _, false, fs, rfl, rcls _, Z.bp, okF, false, rfl, iteF ⟨.ref p.1, rfl, .ref a.BB, _, false, fs, rfl, rcls _, Z.bb, okF, false, rfl, iteF ?_⟩⟩⟩
      refine ⟨.ref p.1, rfl, .ty "ValueError", _, true, fs, rfl, rtyp _, Z.ve, okF, true, rfl, iteF ⟨.ref L, rfl, L, [.ref T], rfl, .inl (SqL.of eL), rfl, _, rfl, iteF ?_⟩⟩
      refine ⟨.ref p.1, rfl, .ref a.IE, _, true, fs, rfl, rcls _, Z.ie, okF, .ref p.1, rfl, .ref a.LE, _, false, fs, rfl, rcls _, Z.le, okF, rfl, ?_⟩
      refine ⟨_, rfl, iteF ?_⟩
      refine ⟨.ref L, rfl, L, [.ref T], 0, .ref T, rfl, rfl, SqL.of eL, rfl, ?_⟩
      exact key _ L T E eL sF nT0 (by rw [upd_ne LT.symm]; exact upd_same) (by rw [upd_ne LE.symm, upd_ne ET]; exact upd_same)
    | tm h1 h2 =>
      rename_i x y
      refine ⟨.ref p.1, rfl, .ref a.NP, _, false, fs, rfl, rcls _, Z.np, okL, false, rfl, iteF ?_⟩
      obtain ⟨dd, hdd⟩ : ∃ dd, d = some dd := by
        cases d with
        | none => exact absurd (hd0 rfl) (by decide +kernel)
        | some dd => exact ⟨dd, rfl⟩
      refine ⟨.ref p.1, rfl, .ref a.TM, _, true, fs, rfl, rcls _, Z.tm, okL, true, rfl, iteT ?_⟩
      refine ⟨.ref L, rfl, .inl ⟨rfl, _, SqL.of upd_same⟩, .ref p.1, rfl, rfl, dd, fs, x, hdd, okL dd hdd, h1, .ref p.1, rfl, rfl, dd, fs, y, hdd, okL dd hdd, h2, by show 2 ≤ sizeLine; decide, fun E nE => ⟨by show 2 ≤ sizeLine; decide, fun T nT => ?_⟩⟩
      have LE : L ≠ E := ne_of_none upd_same nE
      have LT : L ≠ T := ne_of_none (by rw [upd_ne LE]; exact upd_same) nT
      have ET : E ≠ T := ne_of_none upd_same nT
      have nT0 : H T = none := ((sL.new nE)).free nT
      refine ⟨L, [], .ref T, rfl, rfl, by rw [upd_ne LT, upd_ne LE]; exact upd_same, by show 0 < sizeLine; decide, ?_⟩
      have sF : Same H (upd (upd (upd (upd H L (.lst [])) E (.tup [x, y])) T (.tup [.str "TooMany", .ref E])) L (.lst ([] ++ [.ref T]))) := ((sL.new nE).new nT).own nL
      have okF := ok.same sF
      have eL : (upd (upd (upd (upd H L (.lst [])) E (.tup [x, y])) T (.tup [.str "TooMany", .ref E])) L (.lst ([] ++ [.ref T]))) L = some (.lst [.ref T]) := upd_same
      refine ⟨.ref p.1, rfl, .ref a.BT, _, false, fs, rfl, rcls _, Z.bt, okF, false, rfl, iteF ?_⟩
      refine ⟨.ref p.1, rfl, .ref a.LE, _, true, fs, rfl, rcls _, Z.le, okF, .ref p.1, rfl, .ref a.TM, _, true, fs, rfl, rcls _, Z.tm, okF, rfl, ?_⟩
      refine ⟨_, rfl, iteF ⟨.ref p.1, rfl, .ref a.AE, _, false, fs, rfl, rcls _, Z.ae, okF, false, rfl, iteF ?_⟩⟩
      refine ⟨.ref p.1, rfl, .ref a.BL, _, false, fs, rfl, rcls _, Z.bl, okF, false, rfl, iteF ⟨.ref p.1, rfl, .ref a.BP, _, false, fs, rfl, rcls _, Z.bp, okF, false, rfl, iteF ⟨.ref p.1, rfl, .ref a.BB, _, false, fs, rfl, rcls _, Z.bb, okF, false, rfl, iteF ?_⟩⟩⟩
      refine ⟨.ref p.1, rfl, .ty "ValueError", _, true, fs, rfl, rtyp _, Z.ve, okF, true, rfl, iteF ⟨.ref L, rfl, L, [.ref T], rfl, .inl (SqL.of eL), rfl, _, rfl, iteF ?_⟩⟩
      refine ⟨.ref p.1, rfl, .ref a.IE, _, false, fs, rfl, rcls _, Z.ie, okF, .ref p.1, rfl, .ref a.LE, _, true, fs, rfl, rcls _, Z.le, okF, rfl, ?_⟩
      refine ⟨_, rfl, iteF ?_⟩
      refine ⟨.ref L, rfl, L, [.ref T], 0, .ref T, rfl, rfl, SqL.of eL, rfl, ?_⟩
      exact key _ L T E eL sF nT0 (by rw [upd_ne LT.symm]; exact upd_same) (by rw [upd_ne LE.symm, upd_ne ET]; exact upd_same)
    | bt h1 =>
      rename_i x
      refine ⟨.ref p.1, rfl, .ref a.NP, _, false, fs, rfl, rcls _, Z.np, okL, false, rfl, iteF ?_⟩
      refine ⟨.ref p.1, rfl, .ref a.TM, _, false, fs, rfl, rcls _, Z.tm, okL, false, rfl, iteF ?_⟩
      obtain ⟨dd, hdd⟩ : ∃ dd, d = some dd := by
        cases d with
        | none => exact absurd (hd0 rfl) (by decide +kernel)
        | some dd => exact ⟨dd, rfl⟩
      refine ⟨.ref p.1, rfl, .ref a.BT, _, true, fs, rfl, rcls _, Z.bt, okL, true, rfl, iteT ?_⟩
      refine ⟨.ref L, rfl, .inl ⟨rfl, _, SqL.of upd_same⟩, .ref p.1, rfl, rfl, dd, fs, x, hdd, okL dd hdd, h1, by show 1 ≤ sizeLine; decide, fun E nE => ⟨by show 2 ≤ sizeLine; decide, fun T nT => ?_⟩⟩
      have LE : L ≠ E := ne_of_none upd_same nE
      have LT : L ≠ T := ne_of_none (by rw [upd_ne LE]; exact upd_same) nT
      have ET : E ≠ T := ne_of_none upd_same nT
      have nT0 : H T = none := ((sL.new nE)).free nT
      refine ⟨L, [], .ref T, rfl, rfl, by rw [upd_ne LT, upd_ne LE]; exact upd_same, by show 0 < sizeLine; decide, ?_⟩
      have sF : Same H (upd (upd (upd (upd H L (.lst [])) E (.tup [x])) T (.tup [.str "BadText", .ref E])) L (.lst ([] ++ [.ref T]))) := ((sL.new nE).new nT).own nL
      have okF := ok.same sF
      have eL : (upd (upd (upd (upd H L (.lst [])) E (.tup [x])) T (.tup [.str "BadText", .ref E])) L (.lst ([] ++ [.ref T]))) L = some (.lst [.ref T]) := upd_same
      refine ⟨.ref p.1, rfl, .ref a.LE, _, false, fs, rfl, rcls _, Z.le, okF, .ref p.1, rfl, .ref a.TM, _, false, fs, rfl, rcls _, Z.tm, okF, rfl, ?_⟩
      refine ⟨_, rfl, iteF ⟨.ref p.1, rfl, .ref a.AE, _, false, fs, rfl, rcls _, Z.ae, okF, false, rfl, iteF ?_⟩⟩
      refine ⟨.ref p.1, rfl, .ref a.BL, _, false, fs, rfl, rcls _, Z.bl, okF, false, rfl, iteF ⟨.ref p.1, rfl, .ref a.BP, _, false, fs, rfl, rcls _, Z.bp, okF, false, rfl, iteF ⟨.ref p.1, rfl, .ref a.BB, _, false, fs, rfl, rcls _, Z.bb, okF, false, rfl, iteF ?_⟩⟩⟩
      refine ⟨.ref p.1, rfl, .ty "ValueError", _, true, fs, rfl, rtyp _, Z.ve, okF, true, rfl, iteF ⟨.ref L, rfl, L, [.ref T], rfl, .inl (SqL.of eL), rfl, _, rfl, iteF ?_⟩⟩
      refine ⟨.ref p.1, rfl, .ref a.IE, _, true, fs, rfl, rcls _, Z.ie, okF, .ref p.1, rfl, .ref a.LE, _, false, fs, rfl, rcls _, Z.le, okF, rfl, ?_⟩
      refine ⟨_, rfl, iteF ?_⟩
      refine ⟨.ref L, rfl, L, [.ref T], 0, .ref T, rfl, rfl, SqL.of eL, rfl, ?_⟩
      exact key _ L T E eL sF nT0 (by rw [upd_ne LT.symm]; exact upd_same) (by rw [upd_ne LE.symm, upd_ne ET]; exact upd_same)
end
end Kw

set_option maxHeartbeats 4000000
/-! E5: calls of defs that raise; making by a local name; raising of our exceptions. -/
namespace Kw
open PySem PySem.Spec PyProof.Rows L2 L2H
open C8 (Cal)
/-- a def whose exceptions leave -/
structure CalX (P : Program) (w : World) (K : PySem.W.Frag) (mg : Str → Option Value) (base : Heap) (k : Nat) (x : Str) (sp : Sp) : Prop where
  ex : ∃ (f : Addr) (fd : FuncData) (ps : List Str), FnOk P w K mg base (L2.CX P w) k f fd ps sp ∧ mg x = some (.ref f) ∧ PySem.W.keepIn K (.ref f) = true ∧ Binds K fd ps []
/-- the making of one of our exceptions, and its __init__ -/
structure ExM (P : Program) (w : World) (K : PySem.W.Frag) (mg : Str → Option Value) (base : Heap) (C : Addr) (sp : Sp) : Prop where
  ex : ∃ (fI : Addr) (fd : FuncData) (ps : List Str), OexC K C ∧ PySem.W.findIn K (.ref C) "__init__" = some (some (.ref fI)) ∧ PySem.W.typeIn K (.ref fI) = some (.type "function") ∧ FnOk P w K mg base L2.CX0 1 fI fd ps sp ∧ Binds K fd ps []
structure ExH (P : Program) (w : World) (K : PySem.W.Frag) (mg : Str → Option Value) (base : Heap) (C : Addr) (sp : Sp) : Prop where
  ex : ∃ (fI : Addr) (fd : FuncData) (ps : List Str), OexC K C ∧ PySem.W.findIn K (.ref C) "__init__" = some (some (.ref fI)) ∧ PySem.W.typeIn K (.ref fI) = some (.type "function") ∧ FnH P w K mg base L2.CX0 1 fI fd ps sp ∧ Binds K fd ps []
/-- one without an __init__ -/
structure Ex0 (K : PySem.W.Frag) (C : Addr) : Prop where
  ex : ∃ bmB : List Value, ∃ (B newId initId : String), ExcBaseFacts B newId initId bmB ∧ PySem.W.excIn K C bmB newId = true
  kp : PySem.W.keepIn K (.ref C) = true
  be : PySem.W.subIn K (.ref C) (.type "BaseException") = some true
  ty : PySem.W.typeIn K (.ref C) = some (.type "type")
section
variable {X : Cx} {C : Addr} {sp : Sp} {j k : Nat} {x : Str} {e : Expr} {es : List Expr} {p pos : Pos} {ta : TA}
theorem pe_cx {W : WX} (c : CalX X.prog X.w X.K X.mg X.base k x sp) (tk : L2.Takes X W) (hr : Room j X.A) (hk : k ≤ j) (hg : Gl X x) (ha : PA X (e :: es) ta)
    (hdb : (x == ("__debug__" : Str)) = false := by decide) (he : starEach (e :: es) X.env = (false, eval e X.env) :: starEach es X.env := by rfl) (hpl : (backTo pos (starEach es X.env)).any (·.1) = false := by rfl) :
    PE X (.Call (.Name x p) (e :: es) [] pos) (tCallS sp (WE W) ta) := by
  obtain ⟨f, fd, ps, F, hm, kp, b⟩ := c.ex
  exact pe_callS F (hr.mono hk) hg hm kp b (fun σ => passAt tk σ) ha hdb he hpl
theorem pmk_ex (M : ExM X.prog X.w X.K X.mg X.base C sp) (hr : Room j X.A) (hk : 2 ≤ j) (hg : Gl X x) (hm : X.mg x = some (.ref C)) (ha : PA X (e :: es) ta)
    (hdb : (x == ("__debug__" : Str)) = false := by decide) (he : starEach (e :: es) X.env = (false, eval e X.env) :: starEach es X.env := by rfl) (hpl : (backTo pos (starEach es X.env)).any (·.1) = false := by rfl) :
    PMk X (.Call (.Name x p) (e :: es) [] pos) (tMkO C sp [] ta) := by
  obtain ⟨fI, fd, ps, T, iC, tI, F, b⟩ := M.ex
  exact pmk_oex T iC tI F (hr.mono hk) b .nil pass0 hg hm ha hdb he hpl
theorem pmkN_ex (M : ExM X.prog X.w X.K X.mg X.base C sp) (hr : Room j X.A) (hk : 2 ≤ j) (hg : Gl X x) (hm : X.mg x = some (.ref C)) (ha : PA X (e :: es) ta)
    (hdb : (x == ("__debug__" : Str)) = false := by decide) (he : starEach (e :: es) X.env = (false, eval e X.env) :: starEach es X.env := by rfl) (hpl : (backTo pos (starEach es X.env)).any (·.1) = false := by rfl) :
    L2N.PMk X (.Call (.Name x p) (e :: es) [] pos) (tMkO C sp [] ta) := by
  obtain ⟨fI, fd, ps, T, iC, tI, F, b⟩ := M.ex
  exact pmkN_oex T iC tI F (hr.mono hk) b pass0 hg hm ha hdb he hpl
theorem pmkH_ex (M : ExH X.prog X.w X.K X.mg X.base C sp) (hr : RoomH j X.A) (hk : 2 ≤ j) (hc : HotC X) (hg : Gl X x) (hm : X.mg x = some (.ref C)) (ha : PA X (e :: es) ta)
    (hdb : (x == ("__debug__" : Str)) = false := by decide) (he : starEach (e :: es) X.env = (false, eval e X.env) :: starEach es X.env := by rfl) (hpl : (backTo pos (starEach es X.env)).any (·.1) = false := by rfl) :
    PMk5 X (.Call (.Name x p) (e :: es) [] pos) (tMkO C sp [] ta) := by
  obtain ⟨fI, fd, ps, T, iC, tI, F, b⟩ := M.ex
  exact pmk5_oexH T iC tI F (hr.mono hk) hc b pass0 hg hm ha hdb he hpl
theorem pmk_ex0 (M : Ex0 X.K C) (hg : Gl X x) (hm : X.mg x = some (.ref C)) (hdb : (x == ("__debug__" : Str)) = false := by decide) : PMk X (.Call (.Name x p) [] [] pos) (fun _ H Q => Q (.ref C) none H) := by
  obtain ⟨bmB, B, newId, initId, F, q⟩ := M.ex
  exact pmk_own0 F q hm M.kp (raises_own M.be M.ty) hg hdb
/-- C(..), C a class that a local name holds -/
def tMakeL (i : Nat) (C : Addr) (sp : Sp) (t : TA) : TE := fun σ H Q => σ[i]? = some (some (.ref C)) ∧ tMake C sp [] E0 t σ H Q
theorem pe_makeL {i : Nat} {f : Addr} {fd : FuncData} {ps : List Str} (M : Mk X.K C f) (F : FnOk X.prog X.w X.K X.mg X.base L2.CX0 k f fd ps sp) (hr : Room (k + 1) X.A) (hN : X.N[i]? = some x) (hv : Vis X.env.scope x) (hb : Binds X.K fd ps [])
    (ha : PA X (e :: es) ta) (hdb : (x == ("__debug__" : Str)) = false := by decide) (hcd : (x == ("__classdict__" : Str)) = false := by decide)
    (he : starEach (e :: es) X.env = (false, eval e X.env) :: starEach es X.env := by rfl) (hpl : (backTo pos (starEach es X.env)).any (·.1) = false := by rfl) : PE X (.Call (.Name x p) (e :: es) [] pos) (tMakeL i C sp ta) := by
  refine ⟨fun pins s σ H Q I h => ?_⟩
  obtain ⟨hs, ht⟩ := h
  refine wpAny_Call_Name_kw (thn ((pe_var (pos := p) hN hv hdb hcd).run pins s σ H (fun v H1 => v = .ref C ∧ H1 = H) I ⟨.ref C, hs, rfl, rfl⟩) fun u s1 ⟨v, H1, I1, r1, q1⟩ => ?_)
  obtain ⟨rfl, rfl⟩ := q1
  cases r1
  refine PySem.W.callWith_K (h₀ := X.base) I.ok.mod.kin M.kp (thn (ha.run pos pins s1 σ _ _ I1 ht) fun us s2 ⟨vs, H2, I2, r, q⟩ => ⟨I2.kIn, ?_⟩) he hpl
  exact run_make M F hr hb .nil pass0 I2 r q
/-! ### C.m(..), m a classmethod whose exceptions are wished -/
def tCMethS (C : Addr) (sp : Sp) (E : L2.St → XK) (ta : TE) (t : TA) : TE := fun σ H Q => ta σ H fun x H1 => x = .ref C ∧ t σ H1 fun vs H2 => sp (.ref C :: vs) H2 Q (E σ)
theorem pe_cmethS {CX : CXT} {g q : Addr} {mc : Value} {E : L2.St → XK} {o : Expr} {m : Str} {apos : Pos} {to : TE} {pl : Sem Bool} {fd : FuncData} {ps : List Str} (he : PE X o to) (r : ClX.CRead X.K C mc) (c : ClX.CMet X.K C mc m q g) (F : FnOk X.prog X.w X.K X.mg X.base CX k g fd ps sp)
    (hb : Binds X.K fd ps []) (hr : Room k X.A) (hx : ∀ σ, PassesAt CX X σ (E σ)) (ha : PA X (e :: es) ta)
    (hst : starEach (e :: es) X.env = (false, eval e X.env) :: starEach es X.env := by rfl) (hpl : (backTo pos (starEach es X.env)).any (·.1) = false := by rfl)
    (ht : eval (.Call (.Attribute o m apos) (e :: es) [] pos) X.env = (do
      let ov ← eval o X.env
      standAt apos.atName
      let (f, first) ← holding [ov] (getMethod ov m pl)
      callWith pos f first (backTo pos (starEach (e :: es) X.env)) (backToKw pos (keywordEach [] X.env))) := by rfl) :
    PE X (.Call (.Attribute o m apos) (e :: es) [] pos) (tCMethS C sp E to ta) := by
  refine ⟨fun pins s σ H Q I h => ?_⟩
  refine PySem.W.methodCall_KW (pl := pl) (thn (he.run pins s σ H _ I h) fun u s1 ⟨x, H1, I1, rx, ex, q⟩ => ?_) ht
  subst ex
  obtain rfl : u = Value.ref C := rx
  refine ClX.getmethcm_ok I1 r c fun s2 I2 => ?_
  refine ClX.callwith_cm I2 (ClX.base_none I1 (Nat.le_refl _)) c.fi (thn (ha.run pos _ s2 σ H1 _ I2 q) fun us s3 ⟨vs, H2, I3, rv, q2⟩ => ⟨⟨ClX.pin_at I3, I3.kIn⟩, ?_⟩) hst hpl
  have hl : (Value.ref C :: us).length = ps.length := by
    have e1 := F.len _ _ _ _ q2
    rw [← e1, List.length_cons, List.length_cons, rv.length]
  have b := hb s3 (Value.ref C :: us) I3.kIn (by rw [List.append_nil]; exact hl)
  rw [List.append_nil] at b
  refine wpAny_call (PySem.W.method_call (ClX.pin_at I3) (codeAny_mono (F.run X.A X.stack s3 H2 ⟨Value.ref C :: us, []⟩ (Value.ref C :: us) (V.ref C :: vs) Q (E σ) hr I3.env0 b (.cons rfl rv) q2) fun r s' hq => ?_))
  cases r with
  | error e => exact hx σ _ H2 s3 e s' I3 hq
  | ok fl =>
    cases fl with
    | ret u => exact ClX.unpinE (I3.after hq)
    | next => exact False.elim hq
    | brk => exact False.elim hq
    | cont => exact False.elim hq
end
end Kw

set_option maxHeartbeats 4000000
/-! W5: word_plot, from_lots. -/
namespace Kw
open PySem PySem.Spec PyProof.Rows L2 L2H
open C8 (Cal)
open TL (numL numL_len)
/-! ### word_plot -/
def pwords : List Str := (List.range 16).map fun k => mk (numL k)
theorem pwords_get {k : Nat} (h : k < 16) : pwords[k]? = some (mk (numL k)) := by
  unfold pwords
  rw [List.getElem?_map, List.getElem?_range h]; rfl
theorem pwords_len : pwords.length = 16 := by unfold pwords; rw [List.length_map, List.length_range]
theorem num_inj {j k : Nat} (h : numL j = numL k) : j = k := by
  have := congrArg val h
  rw [val_num, val_num] at this
  exact this
theorem inV_str (z : Str) : ∀ ys : List Str, inV (.str z) (ys.map V.str) = decide (z ∈ ys)
  | [] => by simp [inV]
  | y :: r => by
    have ih := inV_str z r
    unfold inV at ih ⊢
    rw [List.map_cons, List.any_cons, ih]
    show ((y == z) || decide (z ∈ r)) = decide (z ∈ y :: r)
    by_cases c : y = z
    · subst c; simp
    · have : (y == z) = false := by simp [c]
      rw [this, Bool.false_or]
      have c2 : ¬ z = y := fun e => c e.symm
      simp [c2]
theorem flat_strs (ys : List Str) : (ys.map V.str).all flatV = true := by
  rw [List.all_map]
  exact List.all_eq_true.mpr fun _ _ => rfl
theorem mem_pwords (w : List Nat) : mk w ∈ pwords ↔ w = numL (val w) ∧ val w < 16 := by
  unfold pwords
  rw [List.mem_map]
  constructor
  · rintro ⟨k, hk, e⟩
    have e2 : w = numL k := (mk_inj e).symm
    rw [e2, val_num]
    exact ⟨rfl, List.mem_range.mp hk⟩
  · rintro ⟨h1, h2⟩
    exact ⟨val w, List.mem_range.mpr h2, by rw [← h1]⟩
/-- the tuple PLOT_WORDS -/
structure PwF (K : PySem.W.Frag) (mg : Str → Option Value) (pw : Addr) : Prop where
  g : mg "PLOT_WORDS" = some (.ref pw)
  s : ∀ H, SqT K H pw (pwords.map V.str)
  t : ∃ o, K.lookup pw = some o ∧ o.cls = .type "tuple" ∧ o.dict = none
def spWord : Sp := fun vs H Q _ => ∃ w : List Nat, vs = [.str (mk w)] ∧ Q (.int (plotOf w)) H
section
variable {P : Program} {w : World} {K : PySem.W.Frag} {mg : Str → Option Value} {base : Heap} {CP : Addr}
theorem ok_wordPlot {f : Addr} {fd : FuncData} {k : Nat} {pw : Addr} (W : PwF K mg pw) (F : L2.Fun K "word_plot" "word_plot" s_wordPlot f fd) : FnOk P w K mg base L2.CX0 (k + 1) f fd ["word"] spWord := by
  refine F.ok sc_wordPlot (fun vs H Q E h => ?_) (fun cdv A outer s H vs Q E hr h => ?_)
  · obtain ⟨w, rfl, _⟩ := h
    rfl
  · obtain ⟨w, rfl, q⟩ := h
    refine ⟨_, pss_cons (ps_if (pt_cmpR op_in_seq (pv 0) (pe_glob rfl W.g (v := .ref pw) rfl) rfl)
        (pss_one (ps_ret (pe_bm PySem.F.plainAttrs_tuple PySem.F.slot_tuple_index PySem.F.type_tuple_index mt_tup_index (pe_glob rfl W.g (v := .ref pw) rfl) (pa_cons (pv 0) pa_nil)))) pss_nil)
      (pss_one (ps_ret (pe_un un_neg pe_int))), ?_⟩
    refine ⟨.str (mk w), rfl, pw, _, rfl, .inr (W.s H), rfl, flat_strs _, _, rfl, ?_⟩
    rw [if_neg Bool.false_ne_true, inV_str]
    by_cases c : mk w ∈ pwords
    · rw [decide_eq_true c]
      obtain ⟨h1, h2⟩ := (mem_pwords w).mp c
      refine iteT ⟨.inr (.inl ⟨rfl, W.t⟩), .str (mk w), rfl, pw, pwords, mk w, val w, rfl, rfl, W.s H, ?_, fun m hm e => ?_, ?_⟩
      · rw [pwords_get h2, ← h1]
      · rw [pwords_get (by omega)] at e
        have := num_inj ((mk_inj (Option.some.inj e)).trans h1)
        omega
      · have e : plotOf w = (val w : Int) := by unfold plotOf; rw [if_pos ⟨h1, h2⟩]
        rw [e] at q
        exact q
    · rw [decide_eq_false c]
      have e : plotOf w = -1 := by unfold plotOf; rw [if_neg fun z => c ((mem_pwords w).mpr z)]
      rw [e] at q
      exact iteF ⟨1, rfl, q⟩
end
end Kw

set_option maxHeartbeats 4000000
/-! W6: Parting.from_lots. -/
namespace Kw
open PySem PySem.Spec PyProof.Rows L2 L2H
open C8 (Cal)
/-- lists of ints, one by one -/
structure Ints (H : Hp) (as : List Addr) (Z : List (List Int)) : Prop where
  len : as.length = Z.length
  at_ : ∀ {j : Nat} {a : Addr} {l : List Int}, as[j]? = some a → Z[j]? = some l → H a = some (.lst (l.map V.int))
theorem Ints.same {H H' : Hp} {as : List Addr} {Z : List (List Int)} (e : Same H H') (h : Ints H as Z) : Ints H' as Z := ⟨h.len, fun a b => e _ _ (h.at_ a b)⟩
def IntsAt (H : Hp) (L : Addr) (Z : List (List Int)) : Prop := ∃ as : List Addr, H L = some (.lst (as.map V.ref)) ∧ Ints H as Z
theorem IntsAt.same {H H' : Hp} {L : Addr} {Z : List (List Int)} (e : Same H H') : IntsAt H L Z → IntsAt H' L Z := fun ⟨as, h1, h2⟩ => ⟨as, e _ _ h1, h2.same e⟩
theorem flat_split {Z : List (List Int)} {i : Nat} {l : List Int} (h : Z[i]? = some l) : Z.flatten = (Z.take i).flatten ++ (l ++ (Z.drop (i + 1)).flatten) := by
  have hi := (List.getElem?_eq_some_iff.mp h).1
  have e : Z = Z.take i ++ (l :: Z.drop (i + 1)) := by
    have e1 := (List.take_append_drop i Z).symm
    rw [List.drop_eq_getElem_cons hi] at e1
    have e2 : Z[i] = l := by
      have := List.getElem?_eq_getElem hi
      rw [this] at h
      exact Option.some.inj h
    rw [e2] at e1
    exact e1
  have := congrArg List.flatten e
  rw [List.flatten_append, List.flatten_cons] at this
  exact this
theorem take_split {l : List Int} {j : Nat} {z : Int} (h : l[j]? = some z) : l.take (j + 1) = l.take j ++ [z] := by
  rw [List.take_add_one, h]; rfl
theorem flat_take {Z : List (List Int)} {i : Nat} {l : List Int} (h : Z[i]? = some l) : (Z.take (i + 1)).flatten = (Z.take i).flatten ++ l := by
  rw [List.take_add_one, h, List.flatten_append]
  show _ ++ ([l] : List (List Int)).flatten = _
  simp
/-- what stands before a place, and the place -/
theorem ok_before {Z : List (List Int)} {i j n : Nat} {l : List Int} {z : Int} (h : Z[i]? = some l) (hz : l[j]? = some z) (ok : okZ n Z.flatten) : okZ n ((Z.take i).flatten ++ l.take j ++ [z]) := by
  rw [flat_split h] at ok
  have e : l = l.take (j + 1) ++ l.drop (j + 1) := (List.take_append_drop _ l).symm
  rw [e, take_split hz] at ok
  have e2 : (Z.take i).flatten ++ (l.take j ++ [z] ++ l.drop (j + 1) ++ (Z.drop (i + 1)).flatten) = ((Z.take i).flatten ++ l.take j ++ [z]) ++ (l.drop (j + 1) ++ (Z.drop (i + 1)).flatten) := by simp
  rw [e2] at ok
  exact okZ_left ok
section
variable {P : Program} {w : World} {K : PySem.W.Frag} {mg : Str → Option Value} {base : Heap} {CP BL : Addr}
theorem okN {x qual : Str} {st : Stmt} {f : Addr} {fd : FuncData} {N ps : List Str} {k : Nat} {sp : Sp} (F : L2.Fun K x qual st f fd) (S : FnScope N ps (defScope st)) (len : ∀ vs H Q E, sp vs H Q E → vs.length = ps.length)
    (hbody : ∀ (cdv : Value) (A : Around) (outer : List Env) (s : Shared) (H : Hp) (vs : List V) (Q : VK) (E : XK), Room k (A.deeper (envOfC qual (defScope st) s.heap.objs.size f cdv)) → sp vs H Q E →
      ∃ t, PSs (cxOf (L2N.CX P w) P w K mg base N qual (defScope st) f cdv A outer s H E) (defBody st) t ∧ t { nx := fun _ H' => Q .non H', rt := Q } (start N vs) H) : FnOk P w K mg base (L2N.CX P w) (k + 1) f fd ps sp := by
  obtain ⟨oc, od, kV, doc, pm, an, cdv, ct, osl, rfl, lk, hcd⟩ := F.ex
  exact fn_of lk hcd S len fun A outer s H vs Q E hr hsp => hbody cdv A outer s H vs Q E hr hsp
def spFrom (CP BL : Addr) : Sp := fun vs H Q E => ∃ (L : Addr) (Z : List (List Int)) (n : Nat), vs = [.ref CP, nv n, .ref L] ∧ IntsAt H L Z ∧ Z.flatten.length = n ∧ 1 ≤ n ∧ n ≤ 16 ∧ (∀ l ∈ Z, l ≠ []) ∧
  (okZ n Z.flatten → ∀ H' p, Same H H' → PartAt H' CP p (namesOf Z n) → Q (.ref p) H') ∧ (¬ okZ n Z.flatten → ∀ H' d, Same H H' → E (.ref BL) (some d) H')
theorem ok_fromLots {f fI : Addr} {fd fdI : FuncData} {k : Nat} (B : Bl mg) (cN : Cal P w K mg base 1 "need_plots" spNeed0 []) (cP : Cal P w K mg base 2 "is_plot" spPlot []) (gBL : mg "BadLots" = some (.ref BL)) (mBL : ExM P w K mg base BL (spX1 BL "at"))
    (MK : Mk K CP fI) (FI : FnOk P w K mg base L2.CX0 4 fI fdI ["self", "labels"] (spInit K CP)) (bI : Binds K fdI ["self", "labels"] [])
    (F : L2.Fun K "from_lots" "Parting.from_lots" s_fromLots f fd) : FnOk P w K mg base (L2N.CX P w) (k + 6) f fd ["cls", "plots", "lots"] (spFrom CP BL) := by
  refine okN F sc_fromLots (fun vs H Q E h => ?_) (fun cdv A outer s H vs Q E hr h => ?_)
  · obtain ⟨L, Z, n, rfl, _⟩ := h
    rfl
  · obtain ⟨L, Z, n, rfl, ⟨as, hL, hI⟩, hn, h1, h16, hne, q, qe⟩ := h
    have hu := hu_of hr
    have tk : L2N.Takes (cxOf (L2N.CX P w) P w K mg base n_fromLots "Parting.from_lots" (defScope s_fromLots) f cdv A outer s H E) (fun cls d _ H => E cls d H) := L2N.takes_of rfl rfl rfl rfl
    refine ⟨_, pss_cons (ps_expr (C8.pe_c cN hr (by omega) rfl (pa_cons (pv 1) pa_nil)))
      (pss_cons (ps_set (i := 3) sc_fromLots.nd rfl (Or.inr rfl) pe_dnewK)
      (pss_cons (ps_for (passes_of rfl) rfl (pi_enumB false rfl B.enum (pa_cons (pv 2) pa_nil))
          (pg_tup rfl (pgs_cons (pg_name (i := 4) sc_fromLots.nd rfl (.inl rfl)) (pgs_cons (pg_name (i := 5) sc_fromLots.nd rfl (.inl rfl)) pgs_nil)))
          (pss_cons (ps_if (pt_cmpR op_eq (pe_callB call_len_seq (by rfl) B.len boot_len (pa_cons (pv 5) pa_nil)) pe_int (nomark _)) pss_never pss_nil)
          (pss_one (ps_for (passes_of rfl) rfl (pi_list (pv 5)) (pg_name (i := 6) sc_fromLots.nd rfl (.inl rfl))
            (pss_cons (ps_if (PW.pt (pw_or (pt_not (pt_val (C8.pe_c cP hr (by omega) rfl (pa_cons (pv 6) (pa_cons (pv 1) pa_nil))))) (pw_or1 (pt_cmp (pc_din hu (pv 6) (pv 3))))))
              (pss_one (L2N.ps_raise rfl tk (pmkN_ex mBL hr (by omega) rfl gBL (pa_cons (pv 4) pa_nil)))) pss_nil)
            (pss_one (ps_dput hu (pv 3) (pv 6) (pv 4) rfl)))))))
      (pss_cons (ps_if (pt_cmpR op_lt (pe_callB call_lenD (by rfl) B.len boot_len (pa_cons (pv 3) pa_nil)) (pv 1) (nomark _)) pss_never pss_nil)
      (pss_one (ps_ret (pe_makeL (i := 0) MK FI (hr.mono (by omega)) rfl (Or.inl rfl) bI (pa_cons (pe_lc (own := [("plot", 6)]) (g := gName 6) (tt := tYes) rfl sc_fromLots.nd (pi_range1 rfl B.range (pa_cons (pv 1) pa_nil))
        (blkOk_by (N := n_fromLots) (sc := defScope s_fromLots) (by decide +kernel)) (fun _ _ _ _ _ => pg_name (i := 6) sc_fromLots.nd rfl (Or.inl rfl)) (fun _ _ _ _ _ => pts_nil)
        (fun _ _ _ _ _ => pe_dget hu (pv 3) (pv 6) (fun _ _ => rfl))) pa_nil))))))), ?_⟩
    refine ⟨nv n, rfl, n, rfl, by omega, by omega, ?_⟩
    intro d nd
    have hLs : ∀ {H'}, Same H H' → SqL K H' L (as.map V.ref) := fun e => SqL.of (e _ _ hL)
    refine ⟨.ref L, rfl, L, as.map V.ref, rfl, hLs (same_new nd), ?_⟩
    refine for_it (walk_enumB false) (fun i σ H3 => ∃ y4 y5 y6 kvs, σ = [some (.ref CP), some (nv n), some (.ref L), some (.ref d), y4, y5, y6] ∧ Same H H3 ∧ H3 d = some (.dK kvs) ∧ kvs.length = (Z.take i).flatten.length ∧ okZ n (Z.take i).flatten ∧
        ∀ z : Int, valV kvs (Sum.inl z) = if z ∈ (Z.take i).flatten then some (nv (lotIx z Z)) else none)
      ⟨none, none, none, [], rfl, same_new nd, upd_same, rfl, okZ_nil n, fun z => by simp [valV_nil]⟩ (fun i σ H3 _ ⟨_, _, _, _, _, s, _⟩ => hLs s) ?_ ?_
    · rintro i x σ H3 H4 hi ⟨y4, y5, y6, kvs, rfl, s3, d3, k3, o3, v3⟩ ⟨T, x1, x2, rfl, nT, rfl, e1, e2⟩
      rw [List.length_map] at hi
      have hiZ : i < Z.length := by rw [← hI.len]; exact hi
      have ha : as[i]? = some as[i] := List.getElem?_eq_getElem hi
      have hl : Z[i]? = some Z[i] := List.getElem?_eq_getElem hiZ
      obtain rfl : V.int (i : Nat) = x1 := Option.some.inj e1
      obtain rfl : V.ref as[i] = x2 := by
        have := show (as.map V.ref)[i]? = some x2 from e2
        rw [List.getElem?_map, ha] at this
        exact Option.some.inj this
      have hA := hI.at_ ha hl
      have hAs : ∀ {H'}, Same H H' → SqL K H' as[i] (Z[i].map V.int) := fun e => SqL.of (e _ _ hA)
      have dT : d ≠ T := ne_of_none d3 nT
      have s4 := s3.new (o := .tup [.int (i : Nat), .ref as[i]]) nT
      refine ⟨T, [.int (i : Nat), .ref as[i]], rfl, .inl (.inl upd_same), rfl, .int (i : Nat), [.ref as[i]], rfl, .ref as[i], [], rfl, rfl, ?_⟩
      -- if len(lot) == 0
      refine ⟨.ref as[i], rfl, as[i], _, rfl, .inl (hAs s4), rfl, _, rfl, ?_⟩
      have hlen : 0 < Z[i].length := List.length_pos_iff.mpr (hne _ (get_mem hl))
      rw [List.length_map, decide_eq_false (by intro e; have e' : ((Z[i].length : Nat) : Int) = 0 := V.int.inj e; omega)]
      refine iteF ?_
      -- for plot in lot
      refine ⟨.ref as[i], rfl, as[i], rfl, ⟨_, hAs s4⟩, ?_⟩
      refine for_it walk_list (fun j σ H5 => ∃ y6 kvs, σ = [some (.ref CP), some (nv n), some (.ref L), some (.ref d), some (.int (i : Nat)), some (.ref as[i]), y6] ∧ Same H H5 ∧ H5 d = some (.dK kvs) ∧ kvs.length = ((Z.take i).flatten ++ Z[i].take j).length ∧ okZ n ((Z.take i).flatten ++ Z[i].take j) ∧
          ∀ z : Int, valV kvs (Sum.inl z) = if z ∈ (Z.take i).flatten ++ Z[i].take j then some (nv (lotIx z Z)) else none)
        ⟨y6, kvs, rfl, s4, by rw [upd_ne dT]; exact d3, by rw [List.take_zero, List.append_nil]; exact k3, by rw [List.take_zero, List.append_nil]; exact o3, fun z => by rw [List.take_zero, List.append_nil]; exact v3 z⟩ (fun j σ H5 _ ⟨_, _, _, s, _⟩ => hAs s) ?_ ?_
      · rintro j x σ H5 H6 hj ⟨y6, kvs, rfl, s5, d5, k5, o5, v5⟩ ⟨rfl, e3⟩
        obtain ⟨z, hz, rfl⟩ := int_at (show (Z[i].map V.int)[j]? = some x from e3)
        rw [List.length_map] at hj
        have tk1 := take_split hz
        have bad : ∀ hno : ¬ okZ n ((Z.take i).flatten ++ Z[i].take j ++ [z]), ¬ okZ n Z.flatten := fun hno ok => hno (ok_before hl hz ok)
        have raise_ : ¬ okZ n ((Z.take i).flatten ++ Z[i].take j ++ [z]) → tMkO BL (spX1 BL "at") [] (tCons (tVar 4) tNil) [some (.ref CP), some (nv n), some (.ref L), some (.ref d), some (.int (i : Nat)), some (.ref as[i]), some (.int z)] H6 (fun cls d H' => E cls d H') :=
          fun hno => ⟨.int (i : Nat), rfl, mkX1 fun dd ndd => qe (bad hno) _ dd (s5.new ndd)⟩
        refine ⟨.int z, rfl, nv n, rfl, z, n, rfl, _, rfl, ?_⟩
        have vz := v5 z
        by_cases c1 : 0 ≤ z ∧ z < (n : Int)
        · rw [decide_eq_true c1.1, decide_eq_true c1.2]
          refine iteF ⟨.int z, rfl, .ref d, rfl, d, _, rfl, DGet.k (k := Sum.inl z) d5, _, rfl, ?_⟩
          by_cases c2 : z ∈ (Z.take i).flatten ++ Z[i].take j
          · rw [if_pos c2] at vz
            rw [vz]
            exact iteT (raise_ fun ok => (okZ_snoc.mp ok).2.2 c2)
          · rw [if_neg c2] at vz
            rw [vz]
            have ok1 : okZ n ((Z.take i).flatten ++ Z[i].take (j + 1)) := by
              rw [tk1, ← List.append_assoc]
              exact okZ_snoc.mpr ⟨o5, c1, c2⟩
            refine iteF ⟨.int (i : Nat), rfl, .ref d, rfl, .int z, rfl, d, _, rfl, DPut.k (k := Sum.inl z) d5 (line_small (by have := nodup_le _ _ o5; omega)), ?_⟩
            refine ⟨some (.int z), putK kvs (Sum.inl z) (.int (i : Nat)), rfl, s5.own nd, upd_same, ?_, ok1, fun y => ?_⟩
            · rw [putK_new _ vz, List.length_append, k5, tk1, ← List.append_assoc, List.length_append (as := (Z.take i).flatten ++ Z[i].take j)]; rfl
            · rw [valV_put, v5 y, tk1, ← List.append_assoc]
              have fz : lotIx z Z = i := lotIx_at hl (get_mem hz) fun m => c2 (List.mem_append_left _ m)
              by_cases cy : y = z
              · subst cy
                rw [if_pos rfl, if_pos (List.mem_append_right _ (List.mem_singleton.mpr rfl)), fz]
              · rw [if_neg (fun e => cy (Sum.inl.inj e))]
                by_cases cm : y ∈ (Z.take i).flatten ++ Z[i].take j
                · rw [if_pos cm, if_pos (List.mem_append_left _ cm)]
                · rw [if_neg cm, if_neg fun m => (List.mem_append.mp m).elim cm fun m => cy (List.mem_singleton.mp m)]
        · have e0 : (decide (0 ≤ z) && decide (z < (n : Int))) = false := by
            rw [Bool.and_eq_false_iff, decide_eq_false_iff_not, decide_eq_false_iff_not]
            by_cases c2 : 0 ≤ z
            · exact .inr fun c3 => c1 ⟨c2, c3⟩
            · exact .inl c2
          rw [e0]
          exact iteT (raise_ fun ok => c1 (okZ_snoc.mp ok).2.1)
      · rintro σ H5 ⟨y6, kvs, rfl, s5, d5, k5, o5, v5⟩
        rw [List.length_map, List.take_length] at k5 o5 v5
        refine ⟨some (.int (i : Nat)), some (.ref as[i]), y6, kvs, rfl, s5, d5, ?_, ?_, fun z => ?_⟩
        · rw [flat_take hl]; exact k5
        · rw [flat_take hl]; exact o5
        · rw [flat_take hl]; exact v5 z
    · rintro σ H3 ⟨y4, y5, y6, kvs, rfl, s3, d3, k3, o3, v3⟩
      rw [List.length_map, hI.len, List.take_length] at k3 o3 v3
      refine ⟨.ref d, rfl, d, kvs, rfl, d3, nv n, rfl, kvs.length, n, rfl, rfl, _, rfl, ?_⟩
      rw [decide_eq_false (by omega)]
      refine iteF ⟨rfl, nv n, rfl, n, rfl, by omega, by omega, fun D nD => ?_⟩
      have nDH : H D = none := s3.free nD
      have dD : d ≠ D := ne_of_none d3 nD
      have en : ((n : Nat) : Int).toNat = n := by omega
      rw [en]
      have okA : okZ n Z.flatten := o3
      refine lc_it walk_range (fun i H4 => Same H H4 ∧ H4 d = some (.dK kvs) ∧ H4 D = some (.lst (((labels Z n).take i).map V.int)))
        ⟨s3.new nD, by rw [upd_ne dD]; exact d3, upd_same⟩ (fun _ _ _ _ => trivial) ?_ ?_
      · rintro i x H4 H5 hi ⟨s4, d4, D4⟩ ⟨rfl, rfl⟩
        have hz : (i : Int) ∈ Z.flatten := okZ_all okA hn hi
        have vz := v3 (i : Int)
        rw [if_pos hz] at vz
        have e0 : (0 : Int) + ((i : Nat) : Int) = (i : Int) := by omega
        refine ⟨rfl, yesT ⟨.ref d, rfl, .int (0 + (i : Nat)), rfl, d, nv (lotIx (i : Int) Z), rfl, ?_, _, D4, ?_, ?_, ?_, ?_⟩⟩
        · rw [← vz, e0]; exact DGet.k (k := Sum.inl (i : Int)) d4
        · rw [List.length_map, List.length_take]; exact line_small (by omega)
        · exact s4.own nDH
        · rw [upd_ne dD]; exact d4
        · rw [upd_same, List.take_add_one, labels_get hi, List.map_append]; rfl
      · rintro H4 ⟨s4, d4, D4⟩
        rw [List.take_of_length_le (by rw [labels_len]; exact Nat.le_refl _)] at D4
        exact mkPart ⟨false, D, labels Z n, rfl, SqL.of D4, by rw [labels_len]; exact h1, by rw [labels_len]; exact h16, fun x H' nx s' pa => q okA H' x (s4.trans s') pa⟩
end
end Kw

set_option maxHeartbeats 4000000
/-! W7: read_parting. -/
namespace Kw
open PySem PySem.Spec PyProof.Rows L2 L2H
open C8 (Cal)
open TL (spl tl_mk)
theorem spl_each (c : Nat) (l : List Nat) {p : List Nat} (h : p ∈ spl [c] 0 [] l) : p.length ≤ l.length := by
  have hs := spl_sum c l []
  have k : ∀ ps : List (List Nat), p ∈ ps → p.length + 1 ≤ (ps.map fun p => p.length + 1).sum := by
    intro ps
    induction ps with
    | nil => intro h; cases h
    | cons a r ih =>
      intro h
      rw [List.map_cons, List.sum_cons]
      rcases List.mem_cons.mp h with q | q
      · rw [q]; omega
      · have := ih q; omega
  have := k _ h
  simp only [List.length_nil] at hs
  omega
theorem sum_lens (Z : List (List Int)) : (Z.map fun l => ((l.length : Nat) : Int)).sum = ((Z.flatten.length : Nat) : Int) := by
  induction Z with
  | nil => rfl
  | cons a r ih => rw [List.map_cons, List.sum_cons, ih, List.flatten_cons, List.length_append]; omega
theorem take_split' {α : Type} {l : List α} {j : Nat} {z : α} (h : l[j]? = some z) : l.take (j + 1) = l.take j ++ [z] := by
  rw [List.take_add_one, h]; rfl
theorem sp1 : (" " : Str).length = 1 := by decide +kernel
theorem bar1 : ("|" : Str).length = 1 := by decide +kernel
section
variable {P : Program} {w : World} {K : PySem.W.Frag} {mg : Str → Option Value} {base : Heap} {CP BL BT : Addr}
def spRead (CP BT : Addr) : Sp := fun vs H Q E => ∃ t : List Nat, vs = [.str (mk t)] ∧ t.length ≤ 100000 ∧
  (∀ ns, readL t = some ns → ∀ H' p, Same H H' → PartAt H' CP p ns → Q (.ref p) H') ∧ (readL t = none → ∀ H' d, Same H H' → H' d = some (.xd [("text", .str (mk t))]) → E (.ref BT) (some d) H')
/-- the classmethod from_lots -/
structure FlC (P : Program) (w : World) (K : PySem.W.Frag) (mg : Str → Option Value) (base : Heap) (CP BL : Addr) : Prop where
  ex : ∃ (q g : Addr) (mc : Value) (fd : FuncData) (k : Nat), ClX.CRead K CP mc ∧ ClX.CMet K CP mc "from_lots" q g ∧ FnOk P w K mg base (L2N.CX P w) 6 g fd ["cls", "plots", "lots"] (spFrom CP BL) ∧ Binds K fd ["cls", "plots", "lots"] []
theorem ok_readParting {f : Addr} {fd : FuncData} {k : Nat} {t16 : Tok} (B : Bl mg) (mp : mg "MOST_PLOTS" = some (.int 16 t16)) (cW : Cal P w K mg base 1 "word_plot" spWord []) (cT : Cal P w K mg base 3 "parting_text" (spPText CP) []) (gP : mg "Parting" = some (.ref CP)) (gBL : mg "BadLots" = some (.ref BL)) (gBT : mg "BadText" = some (.ref BT))
    (mBT : ExM P w K mg base BT (spX1 BT "text")) (hBT : ExH P w K mg base BT (spX1 BT "text")) (xBL : PySem.W.exmOne K (.ref BL) (.ref BL) = some true) (fl : FlC P w K mg base CP BL)
    (F : L2.Fun K "read_parting" "read_parting" s_readParting f fd) : FnOk P w K mg base (L2.CX P w) (k + 7) f fd ["text"] (spRead CP BT) := by
  obtain ⟨fq, fg, mc, fdl, _, fr, fc, fF, fb⟩ := fl.ex
  refine F.okX sc_readParting (fun vs H Q E h => ?_) (fun cdv A outer s H vs Q E hr h => ?_)
  · obtain ⟨t, rfl, _⟩ := h
    rfl
  · obtain ⟨t, rfl, ht, q, qe⟩ := h
    have tk : L2.Takes (cxOf (L2.CX P w) P w K mg base n_readParting "read_parting" (defScope s_readParting) f cdv A outer s H E) (fun cls d _ H => E cls d H) := L2.takes_of rfl rfl rfl rfl
    refine ⟨_, pss_cons (ps_setLc (i := 1) (own := [("part", 4)]) (g := gName 4) (tt := tYes) (by rfl) sc_readParting.nd rfl rfl (sw_true rfl rfl rfl (by decide +kernel)) (piL K (pe_split (pv 0) pe_str))
        (blkOk_by (N := n_readParting) (sc := defScope s_readParting) (by decide +kernel)) (fun _ _ _ _ _ => pg_name (i := 4) sc_readParting.nd rfl (Or.inl rfl)) (fun _ _ _ _ _ => pts_nil)
        (fun _ _ _ _ _ => pe_lc (own := [("word", 5)]) (g := gName 5) (tt := tYes) rfl sc_readParting.nd (piL K (pe_split (pv 4) pe_str)) (blkOk_by (by kernel_rfl)) (fun _ _ _ _ _ => pg_name (i := 5) sc_readParting.nd rfl (Or.inl rfl)) (fun _ _ _ _ _ => pts_nil)
          (fun _ _ _ _ _ => C8.pe_c cW hr (by omega) rfl (pa_cons (pv 5) pa_nil))))
      (pss_cons (ps_set (i := 2) sc_readParting.nd rfl (.inl rfl) (pe_callB (cr_sum rfl) rfl B.sum boot_sum (pa_cons (pe_lc (own := [("lot", 6)]) (g := gName 6) (tt := tYes) rfl sc_readParting.nd (piL K (pv 1))
        (blkOk_by (N := n_readParting) (sc := defScope s_readParting) (by decide +kernel)) (fun _ _ _ _ _ => pg_name (i := 6) sc_readParting.nd rfl (Or.inl rfl)) (fun _ _ _ _ _ => pts_nil)
        (fun _ _ _ _ _ => pe_callB (cLen K) (by rfl) B.len boot_len (pa_cons (pv 6) pa_nil))) pa_nil)))
      (pss_cons (ps_if (pt_cmpR op_gt (pv 2) (pe_glob (v := .int 16) rfl mp ⟨_, rfl⟩) (nomark _)) (pss_one (ps_raise rfl tk (pmk_ex mBT hr (by omega) rfl gBT (pa_cons (pv 0) pa_nil)))) pss_nil)
      (pss_cons (ps_try_onlyX rfl rfl ⟨rfl, by decide, .inl gBL⟩ (fun hd => passesAt_of rfl hd) tk
          (fun W pn xe tkW _ _ => pss_one (ps_set (i := 3) sc_readParting.nd rfl (.inl rfl) (pe_cmethS (pl := _) (pe_glob rfl gP (v := .ref CP) rfl) fr fc fF fb (hr.mono (by omega)) (fun σ => L2N.passAt tkW σ) (pa_cons (pv 2) (pa_cons (pv 1) pa_nil)))))
          (fun a oe cls d pn hz hf tk2 hot => pss_one (ps_raiseHN hot tk2 (pmkH_ex hBT (roomH_mark hr _) (by omega) hot rfl gBT (pa_cons (pv 0) pa_nil)))))
      (pss_cons (ps_if (pt_cmpR op_ne (C8.pe_c cT hr (by omega) rfl (pa_cons (pv 3) pa_nil)) (pv 0) (nomark _)) (pss_one (ps_raise rfl tk (pmk_ex mBT hr (by omega) rfl gBT (pa_cons (pv 0) pa_nil)))) pss_nil)
      (pss_one (ps_ret (pv 3))))))), ?_⟩
    -- lots = [[word_plot(word) for word in part.split(' ')] for part in text.split('|')]
    have zl : (zW t).length = (spl [124] 0 [] t).length := by unfold zW words; rw [List.length_map, List.length_map]
    have hc1 := spl_count 124 t
    refine ⟨.str (mk t), rfl, ⟨_, rfl⟩, mk t, ("|" : Str), rfl, rfl, by rw [bar1]; rfl, ?_, fun L nL => ?_⟩
    · rw [mk_len]
      exact Nat.le_trans (Nat.add_le_add_right ht 2) (by decide)
    rw [split_bar]
    refine ⟨L, rfl, ⟨_, SqL.of upd_same⟩, fun D nD => ?_⟩
    have LD : L ≠ D := ne_of_none upd_same nD
    have nDH : H D = none := (same_new nL).free nD
    refine lc_it (walk_list (xs := ((spl [124] 0 [] t).map mk).map V.str)) (fun i H4 => Same H H4 ∧ H4 L = some (.lst (((spl [124] 0 [] t).map mk).map V.str)) ∧ ∃ as, H4 D = some (.lst (as.map V.ref)) ∧ D ∉ as ∧ Ints H4 as ((zW t).take i))
      ⟨(same_new nL).new nD, by rw [upd_ne LD]; exact upd_same, [], upd_same, by simp, rfl, fun h => by simp at h⟩ (fun i H4 _ ⟨_, l, _⟩ => SqL.of l) ?_ ?_
    · rintro i x H4 H5 hi ⟨s4, L4, as, D4, nas, I4⟩ ⟨rfl, e2⟩
      rw [List.length_map, List.length_map] at hi
      have hp : (spl [124] 0 [] t)[i]? = some (spl [124] 0 [] t)[i] := List.getElem?_eq_getElem hi
      obtain rfl : V.str (mk (spl [124] 0 [] t)[i]) = x := by
        have := show (((spl [124] 0 [] t).map mk).map V.str)[i]? = some x from e2
        rw [List.getElem?_map, List.getElem?_map, hp] at this
        exact Option.some.inj this
      have hpl := spl_each 124 t (get_mem hp)
      have hc2 := spl_count 32 (spl [124] 0 [] t)[i]
      have hz : (zW t)[i]? = some ((spl [32] 0 [] (spl [124] 0 [] t)[i]).map plotOf) := by
        unfold zW words
        rw [List.getElem?_map, List.getElem?_map, hp]; rfl
      refine ⟨rfl, yesT ?_⟩
      refine ⟨.str (mk (spl [124] 0 [] t)[i]), rfl, ⟨_, rfl⟩, mk _, (" " : Str), rfl, rfl, by rw [sp1]; rfl, ?_, fun L2 nL2 => ?_⟩
      · rw [mk_len]
        exact Nat.le_trans (Nat.add_le_add_right (Nat.le_trans hpl ht) 2) (by decide)
      rw [split_sp]
      refine ⟨L2, rfl, ⟨_, SqL.of upd_same⟩, fun D2 nD2 => ?_⟩
      have LD2 : L2 ≠ D2 := ne_of_none upd_same nD2
      have DL2 : D ≠ L2 := ne_of_none D4 nL2
      have nD2' : H5 D2 = none := (same_new nL2).free nD2
      have DD2 : D ≠ D2 := ne_of_none D4 nD2'
      have LnL2 : L ≠ L2 := ne_of_none L4 nL2
      have LnD2 : L ≠ D2 := ne_of_none L4 nD2'
      refine lc_it (walk_list (xs := ((spl [32] 0 [] (spl [124] 0 [] t)[i]).map mk).map V.str)) (fun j H6 => Same H5 H6 ∧ H6 L2 = some (.lst (((spl [32] 0 [] (spl [124] 0 [] t)[i]).map mk).map V.str)) ∧ H6 D2 = some (.lst ((((spl [32] 0 [] (spl [124] 0 [] t)[i]).take j).map plotOf).map V.int)))
        ⟨(same_new nL2).new nD2, by rw [upd_ne LD2]; exact upd_same, upd_same⟩ (fun j H6 _ ⟨_, l, _⟩ => SqL.of l) ?_ ?_
      · rintro j x H6 H7 hj ⟨s6, L6, D6⟩ ⟨rfl, e3⟩
        rw [List.length_map, List.length_map] at hj
        have hw : (spl [32] 0 [] (spl [124] 0 [] t)[i])[j]? = some (spl [32] 0 [] (spl [124] 0 [] t)[i])[j] := List.getElem?_eq_getElem hj
        obtain rfl : V.str (mk (spl [32] 0 [] (spl [124] 0 [] t)[i])[j]) = x := by
          have := show (((spl [32] 0 [] (spl [124] 0 [] t)[i]).map mk).map V.str)[j]? = some x from e3
          rw [List.getElem?_map, List.getElem?_map, hw] at this
          exact Option.some.inj this
        refine ⟨rfl, yesT ⟨.str _, rfl, _, rfl, _, D6, ?_, s6.own nD2', by rw [upd_ne LD2]; exact L6, ?_⟩⟩
        · rw [List.length_map, List.length_map, List.length_take]
          exact line_small (by omega)
        · rw [upd_same, List.take_add_one, hw, List.map_append, List.map_append]; rfl
      · rintro H6 ⟨s6, L6, D6⟩
        rw [List.length_map, List.length_map, List.take_length] at D6
        refine ⟨_, s6 _ _ D4, ?_, ?_, ?_, as ++ [D2], by rw [upd_same, List.map_append]; rfl, ?_, ?_⟩
        · rw [List.length_map, I4.len, List.length_take]
          exact line_small (by omega)
        · exact (s4.trans s6).own nDH
        · rw [upd_ne LD]; exact s6 _ _ L4
        · intro m
          rcases List.mem_append.mp m with m | m
          · exact nas m
          · exact DD2 (List.mem_singleton.mp m)
        · refine ⟨by rw [List.length_append, I4.len, List.take_add_one, hz, List.length_append]; rfl, fun {j a l} x y => ?_⟩
          rw [take_split' hz] at y
          rcases Nat.lt_or_ge j as.length with c | c
          · rw [List.getElem?_append_left c] at x
            rw [List.getElem?_append_left (by rw [← I4.len]; exact c)] at y
            have n1 : a ≠ D := fun e => nas (e ▸ get_mem x)
            rw [upd_ne n1]
            exact s6 _ _ (I4.at_ x y)
          · rw [List.getElem?_append_right c] at x
            rw [List.getElem?_append_right (by rw [← I4.len]; exact c), ← I4.len] at y
            cases hj : j - as.length with
            | zero =>
              rw [hj] at x y
              obtain rfl : D2 = a := by simpa using x
              obtain rfl : _ = l := by simpa using y
              rw [upd_ne DD2.symm]; exact D6
            | succ m => rw [hj] at x; simp at x
    · rintro H1 ⟨s1, L1, as, D1, nas, I1⟩
      rw [List.length_map, List.length_map, ← zl, List.take_length] at I1
      -- plots = sum([len(lot) for lot in lots])
      refine ⟨.ref D, rfl, D, rfl, ⟨_, SqL.of D1⟩, fun M nM => ?_⟩
      have DM : D ≠ M := ne_of_none D1 nM
      have nMH : H M = none := s1.free nM
      refine lc_it (walk_list (xs := as.map V.ref)) (fun i H4 => Same H1 H4 ∧ H4 M = some (.lst ((((zW t).take i).map fun l => ((l.length : Nat) : Int)).map V.int)))
        ⟨same_new nM, upd_same⟩ (fun i H4 _ ⟨s, _⟩ => SqL.of (s _ _ D1)) ?_ ?_
      · rintro i x H4 H5 hi ⟨s4, M4⟩ ⟨rfl, e2⟩
        rw [List.length_map] at hi
        have ha : as[i]? = some as[i] := List.getElem?_eq_getElem hi
        have hiZ : i < (zW t).length := by rw [← I1.len]; exact hi
        have hl : (zW t)[i]? = some (zW t)[i] := List.getElem?_eq_getElem hiZ
        obtain rfl : V.ref as[i] = x := by
          have := show (as.map V.ref)[i]? = some x from e2
          rw [List.getElem?_map, ha] at this
          exact Option.some.inj this
        refine ⟨rfl, yesT ⟨.ref as[i], rfl, as[i], _, rfl, .inl (SqL.of (s4 _ _ (I1.at_ ha hl))), _, M4, ?_, s4.own nM, ?_⟩⟩
        · rw [List.length_map, List.length_map, List.length_take]
          exact line_small (by omega)
        · rw [upd_same, take_split' hl, List.map_append, List.map_append, List.length_map]; rfl
      · rintro H4 ⟨s4, M4⟩
        rw [List.length_map, I1.len, List.take_length] at M4
        refine ⟨M, _, rfl, SqL.of M4, ?_⟩
        rw [sum_lens, zW_len]
        have s14 := s1.trans s4
        have D4 := s4 _ _ D1
        have I4 := I1.same s4
        -- if plots > MOST_PLOTS
        refine ⟨nv (nW t), rfl, nW t, 16, rfl, rfl, _, rfl, ?_⟩
        have rno : ¬ okT t → readL t = none := fun h => by unfold readL; rw [if_neg fun z => h z.1]
        by_cases c16 : nW t ≤ 16
        · rw [decide_eq_false (by omega)]
          refine iteF ?_
          -- try
          refine ⟨rfl, nv (nW t), rfl, .ref D, rfl, D, zW t, nW t, rfl, ⟨as, D4, I4⟩, zW_len t, nW_pos t, c16, fun l hl => ?_, fun ok H5 p s5 pa => ?_, fun nok H5 d s5 => ?_⟩
          · unfold zW at hl
            obtain ⟨ws, hw, rfl⟩ := List.mem_map.mp hl
            exact fun e => words_ne hw (List.map_eq_nil_iff.mp e)
          · have okt : okT t := ⟨c16, ok⟩
            have s15 := s14.trans s5
            -- if parting_text(parting) != text
            refine ⟨.ref p, rfl, p, nameT t, rfl, pa, by rw [nameT_len]; omega, fun H6 s6 => ?_⟩
            have s16 := s15.trans s6
            refine ⟨.str (mk t), rfl, rfl, _, rfl, ?_⟩
            by_cases ce : textL (nameT t) = t
            · have e1 : text (nameT t) = mk t := congrArg mk ce
              rw [e1, decide_eq_true rfl]
              exact iteF ⟨.ref p, rfl, q (nameT t) (by unfold readL; rw [if_pos ⟨okt, ce⟩]) H6 p s16 (pa.same s6)⟩
            · have e1 : ¬ (V.str (text (nameT t)) = V.str (mk t)) := fun e => ce (mk_inj (V.str.inj e))
              rw [decide_eq_false e1]
              exact iteT ⟨.str (mk t), rfl, mkX1 fun dd ndd => qe (by unfold readL; rw [if_neg fun z => ce z.2]) _ dd (s16.new ndd) upd_same⟩
          · exact ⟨true, xBL, fun _ a na => ⟨.str (mk t), rfl, mkX1 fun dd ndd => qe (rno fun z => nok z.2) _ dd ((s14.trans s5).new ndd) upd_same⟩, fun e => Bool.noConfusion e⟩
        · rw [decide_eq_true (by omega)]
          exact iteT ⟨.str (mk t), rfl, mkX1 fun dd ndd => qe (rno fun z => c16 z.1) _ dd (s14.new ndd) upd_same⟩
end
end Kw

set_option maxHeartbeats 4000000
/-! W8: need_plots with its errors, all_partings. -/
namespace Kw
open PySem PySem.Spec PyProof.Rows L2 L2H
open C8 (Cal Mak)
/-! ### the plain law of growing -/
def fitsJ (a : Nat) (r : List Nat) (j : Nat) : List Nat := (List.range j).filter fun m => decide (m = a ∨ r[m]? = some m)
theorem fitsJ_all (a : Nat) (r : List Nat) : fitsJ a r (a + 1) = fits a r := rfl
theorem fitsJ_hit {a : Nat} {r : List Nat} {j : Nat} (h : j = a ∨ r[j]? = some j) : fitsJ a r (j + 1) = fitsJ a r j ++ [j] := by
  unfold fitsJ
  rw [List.range_succ, List.filter_append]
  simp [h]
theorem fitsJ_miss {a : Nat} {r : List Nat} {j : Nat} (h : ¬ (j = a ∨ r[j]? = some j)) : fitsJ a r (j + 1) = fitsJ a r j := by
  unfold fitsJ
  rw [List.range_succ, List.filter_append]
  simp [h]
theorem fitsJ_len (a : Nat) (r : List Nat) (j : Nat) : (fitsJ a r j).length ≤ j := by
  unfold fitsJ
  exact Nat.le_trans (List.length_filter_le _ _) (by rw [List.length_range]; exact Nat.le_refl _)
/-- what one row has grown to, up to the name j -/
def growJ (a : Nat) (r : List Nat) (j : Nat) : List (List Nat) := (fitsJ a r j).map fun m => r ++ [m]
theorem grow_cons (a : Nat) (L : List (List Nat)) {i : Nat} {r : List Nat} (h : L[i]? = some r) : grow a (L.take (i + 1)) = grow a (L.take i) ++ growJ a r (a + 1) := by
  unfold grow
  rw [List.take_add_one, h, List.flatMap_append]
  show _ ++ List.flatMap _ [r] = _
  rw [List.flatMap_cons, List.flatMap_nil, List.append_nil]
  rfl
theorem grow_len (a : Nat) : ∀ L : List (List Nat), (grow a L).length ≤ L.length * (a + 1)
  | [] => by simp [grow]
  | r :: L => by
    have ih := grow_len a L
    unfold grow at ih ⊢
    rw [List.flatMap_cons, List.length_append, List.length_map, List.length_cons, Nat.succ_mul]
    have := fitsJ_len a r (a + 1)
    rw [fitsJ_all] at this
    omega
theorem allN_row : ∀ {i : Nat} {r : List Nat}, r ∈ allN i → r.length = i
  | 0, r, h => by
    have : r = [] := by simpa [allN] using h
    rw [this]; rfl
  | i + 1, r, h => by
    unfold allN grow at h
    obtain ⟨r0, h0, h1⟩ := List.mem_flatMap.mp h
    obtain ⟨m, _, rfl⟩ := List.mem_map.mp h1
    rw [List.length_append, allN_row h0]; rfl
theorem allN_small {i : Nat} (h : i ≤ 5) : (allN i).length ≤ 52 := by
  rcases Nat.eq_zero_or_pos i with c | c
  · rw [c]; decide
  · rw [allN_count c h]
    match i, c, h with
    | 1, _, _ => decide
    | 2, _, _ => decide
    | 3, _, _ => decide
    | 4, _, _ => decide
    | 5, _, _ => decide
theorem zs_int (ns : List Nat) : ns.map nv = (zs ns).map V.int := by rw [List.map_map]; rfl
theorem Tups.at_lst {H : Hp} {ts : List Addr} {L : List (List Nat)} {D : Addr} {xs : List V} {o : HO} (h : Tups H ts L) (hD : H D = some (.lst xs)) : Tups (upd H D o) ts L := ⟨h.len, fun {j t l} a b => by
  have := h.at_ a b
  rw [upd_ne (fun e => by rw [e, hD] at this; cases this)]
  exact this⟩
/-- partings in a list -/
def PartsAt (H : Hp) (l CP : Addr) (L : List (List Nat)) : Prop := ∃ ps : List Addr, H l = some (.lst (ps.map V.ref)) ∧ ps.length = L.length ∧ ∀ {j : Nat} {p : Addr} {ns : List Nat}, ps[j]? = some p → L[j]? = some ns → PartAt H CP p ns
section
variable {P : Program} {w : World} {K : PySem.W.Frag} {mg : Str → Option Value} {base : Heap} {CP NP TM : Addr}
def spNeedX (NP TM : Addr) : Sp := fun vs H Q E => ∃ n : Int, vs = [.int n] ∧ (n < 1 → E (.ref NP) none H) ∧ (16 < n → ∀ d, H d = none → E (.ref TM) (some d) (upd H d (.xd [("limit", .int 16), ("what", .str "plots")]))) ∧ (1 ≤ n → n ≤ 16 → Q .non H)
theorem ok_needX {f : Addr} {fd : FuncData} {k : Nat} {t16 : Tok} (mp : mg "MOST_PLOTS" = some (.int 16 t16)) (gNP : mg "NoPlots" = some (.ref NP)) (gTM : mg "TooMany" = some (.ref TM)) (mNP : Ex0 K NP) (mTM : ExM P w K mg base TM (spX2 TM "what" "limit"))
    (F : L2.Fun K "need_plots" "need_plots" s_needPlots f fd) : FnOk P w K mg base (L2.CX P w) (k + 3) f fd ["plots"] (spNeedX NP TM) := by
  refine F.okX sc_needPlots (fun vs H Q E h => ?_) (fun cdv A outer s H vs Q E hr h => ?_)
  · obtain ⟨n, rfl, _⟩ := h
    rfl
  · obtain ⟨n, rfl, e1, e2, q⟩ := h
    have tk : L2.Takes (cxOf (L2.CX P w) P w K mg base n_needPlots "need_plots" (defScope s_needPlots) f cdv A outer s H E) (fun cls d _ H => E cls d H) := L2.takes_of rfl rfl rfl rfl
    refine ⟨_, pss_cons (ps_if (pt_cmpR op_lt (pv 0) pe_int (nomark _)) (pss_one (ps_raise rfl tk (pmk_ex0 mNP rfl gNP))) pss_nil)
      (pss_one (ps_if (pt_cmpR op_gt (pv 0) (pe_glob (v := .int 16) rfl mp ⟨_, rfl⟩) (nomark _)) (pss_one (ps_raise rfl tk (pmk_ex mTM hr (by omega) rfl gTM (pa_cons pe_str (pa_cons (pe_glob (v := .int 16) rfl mp ⟨_, rfl⟩) pa_nil))))) pss_nil)), ?_⟩
    refine ⟨.int n, rfl, n, 1, rfl, rfl, _, rfl, ?_⟩
    by_cases c1 : n < 1
    · rw [decide_eq_true c1]
      exact iteT (e1 c1)
    · rw [decide_eq_false c1]
      refine iteF ⟨.int n, rfl, n, 16, rfl, rfl, _, rfl, ?_⟩
      by_cases c2 : n > 16
      · rw [decide_eq_true c2]
        exact iteT (mkX2 (e2 c2))
      · rw [decide_eq_false c2]
        exact iteF (q (by omega) (by omega))
/-! ### all_partings -/
def spAll (CP NP TM : Addr) : Sp := fun vs H Q E => ∃ n : Int, vs = [.int n] ∧ (n < 1 → E (.ref NP) none H) ∧ (16 < n → ∀ d H', Same H H' → H' d = some (.xd [("limit", .int 16), ("what", .str "plots")]) → E (.ref TM) (some d) H') ∧
  (5 < n → n ≤ 16 → ∀ d H', Same H H' → H' d = some (.xd [("limit", .int 5), ("what", .str "plots")]) → E (.ref TM) (some d) H') ∧ (1 ≤ n → n ≤ 5 → ∀ H' l, Same H H' → H l = none → PartsAt H' l CP (allN n.toNat) → Q (.ref l) H')
theorem ok_allPartings {f : Addr} {fd : FuncData} {k : Nat} {t5 : Tok} (B : Bl mg) (ml : mg "MOST_LISTED" = some (.int 5 t5)) (gTM : mg "TooMany" = some (.ref TM)) (mTM : ExM P w K mg base TM (spX2 TM "what" "limit")) (cN : CalX P w K mg base 3 "need_plots" (spNeedX NP TM))
    (mk : Mak P w K mg base 4 "Parting" CP (spInit K CP) []) (F : L2.Fun K "all_partings" "all_partings" s_allPartings f fd) : FnOk P w K mg base (L2.CX P w) (k + 6) f fd ["plots"] (spAll CP NP TM) := by
  refine F.okX sc_allPartings (fun vs H Q E h => ?_) (fun cdv A outer s H vs Q E hr h => ?_)
  · obtain ⟨n, rfl, _⟩ := h
    rfl
  · obtain ⟨n, rfl, e1, e2, e3, q⟩ := h
    have tk : L2.Takes (cxOf (L2.CX P w) P w K mg base n_allPartings "all_partings" (defScope s_allPartings) f cdv A outer s H E) (fun cls d _ H => E cls d H) := L2.takes_of rfl rfl rfl rfl
    refine ⟨_, pss_cons (ps_expr (pe_cx cN tk hr (by omega) rfl (pa_cons (pv 0) pa_nil)))
      (pss_cons (ps_if (pt_cmpR op_gt (pv 0) (pe_glob (v := .int 5) rfl ml ⟨_, rfl⟩) (nomark _)) (pss_one (ps_raise rfl tk (pmk_ex mTM hr (by omega) rfl gTM (pa_cons pe_str (pa_cons (pe_glob (v := .int 5) rfl ml ⟨_, rfl⟩) pa_nil))))) pss_nil)
      (pss_cons (ps_set (i := 1) sc_allPartings.nd rfl (.inl rfl) (pe_lst (pa_cons (pe_tup pa_nil) pa_nil)))
      (pss_cons (ps_for (passes_of rfl) rfl (pi_range1 rfl B.range (pa_cons (pv 0) pa_nil)) (pg_name (i := 2) sc_allPartings.nd rfl (Or.inr rfl))
        (pss_one (ps_setLc2 (i := 1) (own := [("row", 3), ("name", 4)]) (vs1 := [4]) (g := gName 3) (tt := tYes) (g1 := gName 4) (by rfl) sc_allPartings.nd rfl rfl (sw_true rfl rfl rfl (by decide +kernel)) (piL K (pv 1))
          (blkOk_by (N := n_allPartings) (sc := defScope s_allPartings) (by decide +kernel)) (by decide) (fun _ _ _ _ _ => pg_name (i := 3) sc_allPartings.nd rfl (Or.inl rfl)) (fun _ _ _ _ _ => pts_nil)
          (fun _ _ _ _ _ => pi_range1 rfl B.range (pa_cons (pe_add (pv 2) pe_int) pa_nil)) (fun _ _ _ _ _ => pg_name (i := 4) sc_allPartings.nd rfl (Or.inl rfl))
          (fun _ _ _ _ _ => pts_one (PW.pt (pw_or (pt_cmpR op_eq (pv 4) (pv 2) (nomark _)) (pw_or1 (pt_cmpR op_eq (pe_ix (ixT K) (pv 3) (pv 4) fun _ _ => rfl) (pv 4) (nomark _))))))
          (fun _ _ _ _ _ => pe_op (opCat K) (pv 3) (pe_tup (pa_cons (pv 4) pa_nil))))))
      (pss_one (ps_ret (pe_lc (own := [("row", 3)]) (g := gName 3) (tt := tYes) rfl sc_allPartings.nd (piL K (pv 1))
        (blkOk_by (N := n_allPartings) (sc := defScope s_allPartings) (by decide +kernel)) (fun _ _ _ _ _ => pg_name (i := 3) sc_allPartings.nd rfl (Or.inl rfl)) (fun _ _ _ _ _ => pts_nil)
        (fun _ _ _ _ _ => C8.pe_mk mk hr (by omega) rfl (pa_cons (pv 3) pa_nil)))))))), ?_⟩
    refine ⟨.int n, rfl, n, rfl, e1, fun c d nd => e2 c d _ (same_new nd) upd_same, fun h1 h16 => ?_⟩
    -- if plots > MOST_LISTED
    refine ⟨.int n, rfl, n, 5, rfl, rfl, _, rfl, ?_⟩
    by_cases c5 : n > 5
    · rw [decide_eq_true c5]
      exact iteT (mkX2 fun d nd => e3 c5 h16 d _ (same_new nd) upd_same)
    rw [decide_eq_false c5]
    refine iteF ?_
    -- rows = [()]
    refine ⟨by decide, fun p0 np0 => ⟨by show 1 ≤ sizeLine; decide, fun R0 nR0 => ?_⟩⟩
    have hN : n.toNat ≤ 5 := by omega
    have nR : p0 ≠ R0 := ne_of_none upd_same nR0
    refine ⟨.int n, rfl, n, rfl, by omega, by omega, ?_⟩
    refine for_it walk_range (fun i σ H3 => ∃ R y2 ts, σ = [some (.int n), some (.ref R), y2, none, none] ∧ Same H H3 ∧ H R = none ∧ H3 R = some (.lst (ts.map V.ref)) ∧ Tups H3 ts (allN i))
      ⟨R0, none, [p0], rfl, (same_new np0).new nR0, (same_new np0).free nR0, upd_same, rfl, fun {j t l} a b => ?_⟩ (fun _ _ _ _ _ => trivial) ?_ ?_
    · cases j with
      | zero =>
        obtain rfl : p0 = t := by simpa using a
        obtain rfl : [] = l := by simpa [allN] using b
        rw [upd_ne nR]; exact upd_same
      | succ m => simp at a
    · rintro i x σ H3 H4 hi ⟨R, y2, ts, rfl, s3, R0n, R3, T3⟩ ⟨rfl, rfl⟩
      have hi5 : i < 5 := by omega
      -- rows = [row + (name,) for row in rows for name in range(at + 1) if ..]
      refine ⟨.ref R, rfl, R, rfl, ⟨_, SqL.of R3⟩, fun D nD => ?_⟩
      have RD : R ≠ D := ne_of_none R3 nD
      have nDH : H D = none := s3.free nD
      refine it_gen (walk_list (xs := ts.map V.ref)) (fun a H5 => Same H H5 ∧ H5 R = some (.lst (ts.map V.ref)) ∧ Tups H5 ts (allN i) ∧ ∃ us, H5 D = some (.lst (us.map V.ref)) ∧ Tups H5 us (grow i ((allN i).take a)))
        ⟨s3.new nD, by rw [upd_ne RD]; exact R3, T3.same (same_new nD), [], upd_same, Tups.nil⟩ (fun a H5 _ ⟨_, r, _⟩ => SqL.of r) ?_ ?_
      · rintro a x H5 H6 ha ⟨s5, R5, T5, us, D5, U5⟩ ⟨rfl, e2⟩
        rw [List.length_map] at ha
        have haN : a < (allN i).length := by rw [← T5.len]; exact ha
        have hta : ts[a]? = some ts[a] := List.getElem?_eq_getElem ha
        have hra : (allN i)[a]? = some (allN i)[a] := List.getElem?_eq_getElem haN
        obtain rfl : V.ref ts[a] = x := by
          have := show (ts.map V.ref)[a]? = some x from e2
          rw [List.getElem?_map, hta] at this
          exact Option.some.inj this
        generalize hr0 : (allN i)[a] = r at hra
        generalize ht0 : ts[a] = t at hta
        have hrl : r.length = i := allN_row (get_mem hra)
        have hrow := T5.at_ hta hra
        refine ⟨rfl, yesT ?_⟩
        refine ⟨.int (0 + (i : Nat)), rfl, 0 + (i : Nat), 1, rfl, rfl, 0 + (i : Nat) + 1, rfl, by omega, by omega, ?_⟩
        have en : ((0 : Int) + (i : Nat) + 1).toNat = i + 1 := by omega
        rw [en]
        refine it_gen walk_range (fun j H6 => Same H H6 ∧ H6 R = some (.lst (ts.map V.ref)) ∧ Tups H6 ts (allN i) ∧ ∃ us, H6 D = some (.lst (us.map V.ref)) ∧ Tups H6 us (grow i ((allN i).take a) ++ growJ i r j))
          ⟨s5, R5, T5, us, D5, by rw [show growJ i r 0 = [] from rfl, List.append_nil]; exact U5⟩ (fun _ _ _ _ => trivial) ?_ ?_
        · rintro j x H6 H7 hj ⟨s6, R6, T6, us, D6, U6⟩ ⟨rfl, rfl⟩
          have hrow6 := T6.at_ hta hra
          have ul : us.length ≤ 400 := by
            have e1 := U6.len
            have e2 := grow_len i ((allN i).take a)
            have e3 := fitsJ_len i r j
            have e4 := allN_small (i := i) (by omega)
            rw [List.length_append, show (growJ i r j).length = (fitsJ i r j).length from List.length_map ..] at e1
            rw [List.length_take] at e2
            have e5 : (min a (allN i).length) * (i + 1) ≤ 52 * 5 := Nat.mul_le_mul (by omega) (by omega)
            omega
          have key : (j = i ∨ r[j]? = some j) → tOp (rCatA K) (tVar 3) (tTup (tCons (tVar 4) tNil)) [some (.int n), some (.ref R), some (.int (0 + (i : Nat))), some (.ref t), some (.int (0 + (j : Nat)))] H7
              fun y H8 => ∃ acc, H8 D = some (.lst acc) ∧ acc.length < sizeLine ∧ (Same H (upd H8 D (.lst (acc ++ [y]))) ∧ (upd H8 D (.lst (acc ++ [y]))) R = some (.lst (ts.map V.ref)) ∧ Tups (upd H8 D (.lst (acc ++ [y]))) ts (allN i) ∧
                ∃ us, (upd H8 D (.lst (acc ++ [y]))) D = some (.lst (us.map V.ref)) ∧ Tups (upd H8 D (.lst (acc ++ [y]))) us (grow i ((allN i).take a) ++ growJ i r (j + 1))) := fun hit => by
            have gj : growJ i r (j + 1) = growJ i r j ++ [r ++ [j]] := by
              unfold growJ
              rw [fitsJ_hit hit, List.map_append]; rfl
            have fin : ∀ (p' : Addr) (H8 : Hp), Same H7 H8 → H8 p' = some (.tup ((r ++ [j]).map nv)) → ∃ acc, H8 D = some (.lst acc) ∧ acc.length < sizeLine ∧ (Same H (upd H8 D (.lst (acc ++ [.ref p']))) ∧ (upd H8 D (.lst (acc ++ [.ref p']))) R = some (.lst (ts.map V.ref)) ∧ Tups (upd H8 D (.lst (acc ++ [.ref p']))) ts (allN i) ∧
                ∃ us, (upd H8 D (.lst (acc ++ [.ref p']))) D = some (.lst (us.map V.ref)) ∧ Tups (upd H8 D (.lst (acc ++ [.ref p']))) us (grow i ((allN i).take a) ++ growJ i r (j + 1))) := fun p' H8 s8 e8 => by
              have D8 := s8 _ _ D6
              refine ⟨_, D8, by rw [List.length_map]; exact line_small (by omega), (s6.trans s8).own nDH, by rw [upd_ne RD]; exact s8 _ _ R6, (T6.same s8).at_lst D8, us ++ [p'], by rw [upd_same, List.map_append]; rfl, ?_⟩
              rw [gj, ← List.append_assoc]
              refine (U6.same s8).snoc (fun b xs e => ?_) ?_
              · rw [upd_ne (fun q => by rw [q, D8] at e; cases e)]; exact e
              · rw [upd_ne (fun q => by rw [q, D8] at e8; cases e8)]; exact e8
            refine ⟨.ref t, rfl, .int (0 + (j : Nat)), rfl, by show 1 ≤ sizeLine; decide, fun p1 np1 => ?_⟩
            have tp : t ≠ p1 := ne_of_none hrow6 np1
            have e0 : (0 : Int) + (j : Nat) = (j : Int) := by omega
            rw [e0]
            refine ⟨t, p1, r.map nv, [nv j], rfl, rfl, .inl (.inl (by rw [upd_ne tp]; exact hrow6)), .inl (.inl upd_same), ?_, fun er => ?_, fun _ z => (by cases z), fun _ _ p2 np2 => ?_⟩
            · rw [List.length_map, hrl]; exact Nat.le_of_lt (line_small (by show i + 1 ≤ _; omega))
            · have er' : r = [] := List.map_eq_nil_iff.mp er
              refine fin p1 _ (same_new np1) ?_
              rw [upd_same, er']; rfl
            · refine fin p2 _ ((same_new np1).new np2) ?_
              rw [upd_same, List.map_append]; rfl
          have dj : (V.int (0 + (j : Nat)) = V.int (0 + (i : Nat))) ↔ j = i := by
            constructor
            · intro e
              have := V.int.inj e
              omega
            · rintro rfl; rfl
          refine ⟨rfl, .int (0 + (j : Nat)), rfl, .int (0 + (i : Nat)), rfl, rfl, _, rfl, ?_⟩
          by_cases cj : j = i
          · rw [decide_eq_true (dj.mpr cj)]
            exact iteT (iteT (key (.inl cj)))
          · rw [decide_eq_false fun e => cj (dj.mp e)]
            refine iteF ?_
            have hjr : j < r.length := by omega
            have hrj : r[j]? = some r[j] := List.getElem?_eq_getElem hjr
            have e0 : (0 : Int) + (j : Nat) = (j : Int) := by omega
            refine ⟨.ref t, rfl, .int (0 + (j : Nat)), rfl, t, r.map nv, 0 + (j : Nat), nv r[j], rfl, rfl, .inl (.inl hrow6), by rw [e0]; exact atI_nat (by rw [List.getElem?_map, hrj]; rfl), .int (0 + (j : Nat)), rfl, rfl, _, rfl, ?_⟩
            by_cases ck : r[j] = j
            · rw [decide_eq_true (by rw [e0, ck])]
              exact iteT (key (.inr (by rw [hrj, ck])))
            · rw [decide_eq_false fun e => ck (by have := V.int.inj e; omega)]
              refine iteF ⟨s6, R6, T6, us, D6, ?_⟩
              have gm : growJ i r (j + 1) = growJ i r j := by
                unfold growJ
                rw [fitsJ_miss fun z => z.elim cj fun z => ck (by rw [hrj] at z; exact Option.some.inj z)]
              rw [gm]; exact U6
        · rintro H6 ⟨s6, R6, T6, us, D6, U6⟩
          exact ⟨s6, R6, T6, us, D6, by rw [grow_cons i (allN i) hra]; exact U6⟩
      · rintro H5 ⟨s5, R5, T5, us, D5, U5⟩
        rw [List.length_map, T5.len, List.take_length] at U5
        exact ⟨D, some (.int (0 + (i : Nat))), us, rfl, s5, nDH, D5, U5⟩
    · rintro σ H3 ⟨R, y2, ts, rfl, s3, R0n, R3, T3⟩
      -- return [Parting(row) for row in rows]
      refine ⟨.ref R, rfl, R, rfl, ⟨_, SqL.of R3⟩, fun D nD => ?_⟩
      have nDH : H D = none := s3.free nD
      refine lc_it (walk_list (xs := ts.map V.ref)) (fun i H4 => Same H H4 ∧ Same H3 H4 ∧ ∃ ps : List Addr, H4 D = some (.lst (ps.map V.ref)) ∧ ps.length = i ∧ ∀ {j : Nat} {p : Addr} {ns : List Nat}, ps[j]? = some p → (allN n.toNat)[j]? = some ns → PartAt H4 CP p ns)
        ⟨s3.new nD, same_new nD, [], upd_same, rfl, fun h => by simp at h⟩ (fun i H4 _ ⟨_, s, _⟩ => SqL.of (s _ _ R3)) ?_ ?_
      · rintro i x H4 H5 hi ⟨s4, s34, ps, D4, pl, pat⟩ ⟨rfl, e2⟩
        rw [List.length_map] at hi
        have hiN : i < (allN n.toNat).length := by rw [← T3.len]; exact hi
        have hti : ts[i]? = some ts[i] := List.getElem?_eq_getElem hi
        have hni : (allN n.toNat)[i]? = some (allN n.toNat)[i] := List.getElem?_eq_getElem hiN
        obtain rfl : V.ref ts[i] = x := by
          have := show (ts.map V.ref)[i]? = some x from e2
          rw [List.getElem?_map, hti] at this
          exact Option.some.inj this
        have hrow := s34 _ _ (T3.at_ hti hni)
        obtain ⟨fl, fn, _⟩ := allN_fine (n := n.toNat) (by omega) hN (get_mem hni)
        have hcell : SqB K true H5 ts[i] ((zs (allN n.toNat)[i]).map V.int) := .inl (.inl (by rw [hrow, zs_int]))
        refine ⟨rfl, yesT ⟨.ref ts[i], rfl, ?_⟩⟩
        intro p dx np ndx hne
        refine mkPart2 np ndx hcell (by rw [List.length_map, fl]; omega) (by rw [List.length_map, fl]; omega) fun H6 s6 pa => ⟨rfl, ?_⟩
        have D6 := s6 _ _ D4
        have hc : canon (zs (allN n.toNat)[i]) = (allN n.toNat)[i] := fn
        rw [hc] at pa
        have noD : ∀ {q : Addr} {ns : List Nat}, PartAt H6 CP q ns → PartAt (upd H6 D (.lst (ps.map V.ref ++ [.ref p]))) CP q ns := fun h => h.butl (But.refl D H6).at D6
        refine ⟨_, D6, ?_, (s4.trans s6).own nDH, (s34.trans s6).own nD, ps ++ [p], by rw [upd_same, List.map_append]; rfl, by rw [List.length_append, pl]; rfl, fun {j q ns} a b => ?_⟩
        · rw [List.length_map, pl]
          exact line_small (by have := allN_small hN; omega)
        · rcases Nat.lt_or_ge j ps.length with c | c
          · rw [List.getElem?_append_left c] at a
            exact noD ((pat a b).same s6)
          · rw [List.getElem?_append_right c] at a
            cases hj : j - ps.length with
            | zero =>
              rw [hj] at a
              obtain rfl : p = q := by simpa using a
              have ej : j = i := by omega
              rw [ej, hni] at b
              obtain rfl := Option.some.inj b
              exact noD pa
            | succ m => rw [hj] at a; simp at a
      · rintro H4 ⟨s4, s34, ps, D4, pl, pat⟩
        rw [List.length_map, T3.len] at pl
        exact q (by omega) (by omega) H4 D s4 nDH ⟨ps, D4, pl, pat⟩
end
end Kw

set_option maxHeartbeats 4000000
/-! S1: texts of the law: signs below 128, a bound on the length; replace of one; text * int. -/
namespace Kw
open PySem PySem.Spec PyProof.Rows L2
open PySem.Builtin.Str (occurrences partsBetween glued strSub)
/-! ### one replacement -/
def rep1 (x y z : Str) : Str := if ((occurrences x y 0 x.length 1).isEmpty || (y.length == 0 && z.length == 0)) = true then x else glued z (partsBetween x (occurrences x y 0 x.length 1) y.length)
theorem rep1_len0 (x y z : Str) : (glued z (partsBetween x (occurrences x y 0 x.length 1) y.length)).length ≤ x.length + z.length := by
  have h1 := StrLaws.occ_length_le x y 0 x.length 1
  have hy : (glued y (partsBetween x (occurrences x y 0 x.length 1) y.length)).length = x.length := by rw [StrLaws.glued_between_self]
  rw [size_glued, length_partsBetween, Nat.add_sub_cancel] at hy
  rw [size_glued, length_partsBetween, Nat.add_sub_cancel]
  have h2 : (occurrences x y 0 x.length 1).length * z.length ≤ 1 * z.length := Nat.mul_le_mul_right _ h1
  omega
theorem rep1_len (x y z : Str) : (rep1 x y z).length ≤ x.length + z.length := by
  unfold rep1
  split
  · exact Nat.le_add_right _ _
  · exact rep1_len0 x y z
/-! ### fine texts -/
structure Fine (n : Nat) (z : Str) : Prop where
  asc : Asc (TL.tl z)
  len : z.length ≤ n
theorem Fine.mono {n m : Nat} {z : Str} (h : Fine n z) (k : n ≤ m) : Fine m z := ⟨h.asc, Nat.le_trans h.len k⟩
theorem fine_of {n : Nat} {z : Str} (h : ((TL.tl z).all (fun c => decide (c < 128)) && decide (z.length ≤ n)) = true) : Fine n z := by
  rw [Bool.and_eq_true] at h
  refine ⟨fun c hc => of_decide_eq_true (List.all_eq_true.mp h.1 c hc), of_decide_eq_true h.2⟩
theorem fine_mk {n : Nat} {l : List Nat} (h : Asc l) (k : l.length ≤ n) : Fine n (mk l) := ⟨h, by rw [TL.len_tl]; exact k⟩
theorem fine_list {n : Nat} {z : Str} (h : Fine n z) : ∃ l, z = mk l ∧ Asc l ∧ l.length ≤ n := ⟨TL.tl z, (mk_tl' z).symm, h.asc, by have := h.len; rw [TL.len_tl] at this; exact this⟩
theorem fine_cat {n m : Nat} {a b : Str} (ha : Fine n a) (hb : Fine m b) : Fine (n + m) (a ++ b) := by
  refine ⟨fun c hc => ?_, ?_⟩
  · rw [TL.tl_append] at hc
    rcases List.mem_append.mp hc with q | q
    · exact ha.asc c q
    · exact hb.asc c q
  · rw [TL.len_tl, TL.tl_append, List.length_append, ← TL.len_tl, ← TL.len_tl]
    have := ha.len; have := hb.len; omega
theorem fine_cut {n : Nat} {z : Str} {lo hi : Option Int} (h : Fine n z) : Fine n (cutS z lo hi) := by
  have e : TL.tl (cutS z lo hi) = ((TL.tl z).drop (HT.sIx z.length 0 lo)).take (HT.sIx z.length z.length hi - HT.sIx z.length 0 lo) := rfl
  refine ⟨fun c hc => ?_, ?_⟩
  · rw [e] at hc
    exact h.asc c (List.mem_of_mem_drop (List.mem_of_mem_take hc))
  · have := h.len
    rw [TL.len_tl] at this ⊢
    rw [e, List.length_take, List.length_drop]
    omega
theorem fine_at {n : Nat} {z : Str} {i : Int} {c : Nat} (h : Fine n z) (e : atI z.cps.toList i = some c) : Fine 1 ⟨#[c]⟩ := by
  refine ⟨fun d hd => ?_, Nat.le_refl _⟩
  have hd' : d = c := by
    have : TL.tl ⟨#[c]⟩ = [c] := rfl
    rw [this] at hd
    exact List.mem_singleton.mp hd
  rw [hd']
  obtain ⟨j, _, hj, _⟩ := atI_get e
  exact h.asc c (List.mem_of_getElem? hj)
theorem fine_num {k n : Nat} (h : (TL.numL k).length ≤ n) : Fine n (Str.ofString (toString ((k : Nat) : Int))) := by
  rw [str_num]
  exact fine_mk (asc_num k) h
theorem fine_join {n m : Nat} {y : Str} {ys : List Str} (hy : Fine m y) (h : ∀ z ∈ ys, Fine n z) : Fine (ys.length * (n + m)) (Txt.join y ys) := by
  have e : TL.tl (Txt.join y ys) = TL.joinL (TL.tl y) (ys.map TL.tl) := by rw [TL.join_eq, TL.tl_join]
  refine ⟨?_, ?_⟩
  · rw [e]
    refine asc_join hy.asc fun p hp => ?_
    obtain ⟨z, hz, rfl⟩ := List.mem_map.mp hp
    exact (h z hz).asc
  · rw [TL.len_tl, e]
    have k := joinL_len (TL.tl y) n (ys.map TL.tl) fun p hp => by
      obtain ⟨z, hz, rfl⟩ := List.mem_map.mp hp
      rw [← TL.len_tl]
      exact (h z hz).len
    rw [List.length_map] at k
    refine Nat.le_trans k (Nat.mul_le_mul_left _ ?_)
    have := hy.len
    rw [TL.len_tl] at this
    omega
theorem part_mem {x : Str} {cuts : List Nat} {w : Nat} {p : Str} (hp : p ∈ partsBetween x cuts w) {c : Nat} (hc : c ∈ TL.tl p) : c ∈ TL.tl x := by
  unfold partsBetween at hp
  obtain ⟨q, _, rfl⟩ := List.mem_map.mp hp
  have e : TL.tl (strSub x q.1 q.2) = (x.cps.extract q.1 q.2).toList := rfl
  have hc2 : c ∈ (x.cps.extract q.1 q.2).toList := hc
  rw [Array.toList_extract] at hc2
  have hc3 : c ∈ (List.take (q.2 - q.1) (List.drop q.1 x.cps.toList)) := hc2
  exact List.mem_of_mem_drop (List.mem_of_mem_take hc3)
theorem fine_rep {n m : Nat} {x y z : Str} (hx : Fine n x) (hz : Fine m z) : Fine (n + m) (rep1 x y z) := by
  refine ⟨fun c hc => ?_, Nat.le_trans (rep1_len x y z) (Nat.add_le_add hx.len hz.len)⟩
  unfold rep1 at hc
  split at hc
  · exact hx.asc c hc
  · have e : TL.tl (glued z (partsBetween x (occurrences x y 0 x.length 1) y.length)) = TL.joinL (TL.tl z) ((partsBetween x (occurrences x y 0 x.length 1) y.length).map TL.tl) := by
      have := TL.tl_join z (partsBetween x (occurrences x y 0 x.length 1) y.length)
      rw [← TL.join_eq] at this
      exact this
    rw [e] at hc
    rcases mem_joinL hc with q | ⟨p, hp, q⟩
    · exact hz.asc c q
    · obtain ⟨p2, hp2, rfl⟩ := List.mem_map.mp hp
      exact hx.asc c (part_mem hp2 q)
/-! ### the call -/
section
open PySem.Builtin
theorem gives_rep1 (x y z : Str) (t u v k : Tok) (hu : u ≠ 0) (hv : v ≠ 0) (huv : u ≠ v) (hyz : (y == z) = false) (hl : Builtin.Str.tooLong (x.length + (occurrences x y 0 x.length 1).length * z.length) = false) :
    Gives («str.replace» ⟨[.str x t, .str y u, .str z v, .int 1 k], []⟩) (if ((occurrences x y 0 x.length 1).isEmpty || (y.length == 0 && z.length == 0)) = true then .val (.str x t) else .str (glued z (partsBetween x (occurrences x y 0 x.length 1) y.length))) := by
  have e : («str.replace» ⟨[.str x t, .str y u, .str z v, .int 1 k], []⟩ : Sem Fin) = (do
      let limit ← Builtin.Str.countLimit "str.replace" (some (.int 1 k)) (x.length + 1)
      if ((occurrences x y 0 x.length limit).isEmpty || (y.length == 0 && z.length == 0)) = true then (do rule "str.replace.nothing"; ret (.str x t)) else
          (do let same ← isSame (.str y u) (.str z v)
              if same = true then (do rule "str.replace.old-is-new"; ret (.str x t)) else
              if Builtin.Str.tooLong (x.length + (occurrences x y 0 x.length limit).length * z.length) = true then unsupported "str.replace:memory" else
              retStr (glued z (partsBetween x (occurrences x y 0 x.length limit) y.length)))) := rfl
  rw [e, PySem.countLimit_int "str.replace" 1 k (x.length + 1) (by decide)]
  show Gives (if ((occurrences x y 0 x.length 1).isEmpty || (y.length == 0 && z.length == 0)) = true then (do rule "str.replace.nothing"; ret (.str x t)) else
          (do let same ← isSame (.str y u) (.str z v)
              if same = true then (do rule "str.replace.old-is-new"; ret (.str x t)) else
              if Builtin.Str.tooLong (x.length + (occurrences x y 0 x.length 1).length * z.length) = true then unsupported "str.replace:memory" else
              retStr (glued z (partsBetween x (occurrences x y 0 x.length 1) y.length)))) _
  cases hc : ((occurrences x y 0 x.length 1).isEmpty || (y.length == 0 && z.length == 0))
  · rw [PySem.isSame_str_other y z u v (by simp [hu, hv]) (by simp [huv]) hyz, hl]
    exact .of_eq rfl
  · exact .rule (.of_eq rfl)
end
section
variable {prog : Program} {w : World} {A : Around} {E : Value → Shared → Prop} {s : Shared} {x y z : Str} {t u v k : Tok} {Q : Value → Shared → Prop}
theorem args_rep1 (a b c d : Value) : argsOk "str.replace" ⟨[a, b, c, d], []⟩ := by unfold argsOk; kernel_rfl
theorem call_rep1 (hu : u ≠ 0) (hv : v ≠ 0) (huv : u ≠ v) (hyz : (y == z) = false) (hb : x.length + z.length ≤ 16777216) (hq : ∀ t' k', Q (.str (rep1 x y z) t') { s with toks := k' }) :
    wpAny (model prog w) A (call (.builtin "str.replace") [.str x t, .str y u, .str z v, .int 1 k]) Q E s := by
  have h1 := StrLaws.occ_length_le x y 0 x.length 1
  have hl : Builtin.Str.tooLong (x.length + (occurrences x y 0 x.length 1).length * z.length) = false := by
    have h2 : (occurrences x y 0 x.length 1).length * z.length ≤ 1 * z.length := Nat.mul_le_mul_right _ h1
    unfold Builtin.Str.tooLong sizeLine
    exact decide_eq_false (by omega)
  refine call_gives F.slot_str_replace (typeIs_str _ _ _) F.entry_str_replace (args_rep1 _ _ _ _) (gives_rep1 x y z t u v k hu hv huv hyz hl) ?_
  have hq' := hq
  unfold rep1 at hq'
  cases hc : ((occurrences x y 0 x.length 1).isEmpty || (y.length == 0 && z.length == 0))
  · rw [hc] at hq'
    simp only [Bool.false_eq_true, if_false] at hq' ⊢
    exact ⟨by have := rep1_len0 x y z; rw [sizeLine_eq]; omega, hq' _ _⟩
  · rw [hc] at hq'
    simp only [if_true] at hq' ⊢
    exact hq' t s.toks
end
/-! ### the rules -/
def tRep1 (to : TE) (y z : Str) : TE := fun σ H Q => to σ H fun v H1 => ∃ x, v = .str x ∧ x.length + z.length ≤ 16777216 ∧ Q (.str (rep1 x y z)) H1
section
variable {X : Cx}
theorem pet_rep1 {o : Expr} {to : TE} {y z : Str} {j k l : Nat} {c0 c1 c2 apos pos : Pos} (ho : PE X o to) (hyz : (y == z) = false := by decide)
    (hst : starEach [.Constant (.str y) j c0, .Constant (.str z) k c1, .Constant (.int 1) l c2] X.env = [(false, eval (.Constant (.str y) j c0) X.env), (false, eval (.Constant (.str z) k c1) X.env), (false, eval (.Constant (.int 1) l c2) X.env)] := by rfl)
    (hbase : attributeBase o "replace" X.env (eval o X.env) = eval o X.env := by rfl) (hline : (apos.endLine == pos.line) = true := by rfl) :
    PET X (.Call (.Attribute o "replace" apos) [.Constant (.str y) j c0, .Constant (.str z) k c1, .Constant (.int 1) l c2] [] pos) (tRep1 to y z) := by
  intro pins s σ H Q h0 I h
  refine PySem.wpAny_Call_method_lateS hbase (by rw [hst]; rfl) hline ?_
  rw [hst]
  show wpAny (model X.prog X.w) X.A (eval o X.env) (fun ov s₁ => PySem.MethodOnS X.prog X.w X.A X.xe "replace" ov pos [(false, eval (.Constant (.str y) j c0) X.env), (false, eval (.Constant (.str z) k c1) X.env), (false, eval (.Constant (.int 1) l c2) X.env)] (EP X pins σ Q) s₁) X.xe s
  refine wpAny_mono (PySem.wpAny_toks (ho.run pins s σ H _ I h)) (fun v s1 q => ?_) fun _ _ z => z.2
  obtain ⟨hk, v', H1, I1, r1, x, e1, hb, q⟩ := q
  subst e1
  obtain ⟨tx, e2⟩ := r1
  subst e2
  refine ⟨"str", _, PySem.F.plainAttrs_str, PySem.F.slot_str_replace, PySem.F.type_str_replace, typeIs_str _ _ _, (fun _ e => nomatch e), Calls.callWith_builtin rfl (Calls.evalArgs_plain (Calls.spliced_cons ?_))⟩
  refine Calls.Constant_str ?_
  show wpAny _ _ (spliced ((false, eval (.Constant (.str z) k c1) X.env) :: [(false, eval (.Constant (.int 1) l c2) X.env)])) _ _ _
  refine Calls.spliced_cons ?_
  refine Calls.Constant_str ?_
  show wpAny _ _ (spliced ((false, eval (.Constant (.int 1) l c2) X.env) :: [])) _ _ _
  refine Calls.spliced_cons ?_
  refine wpAny_Constant_int ?_
  refine Calls.spliced_nil ?_
  exact call_rep1 (by show s1.toks ≠ 0; omega) (by show s1.toks + 1 ≠ 0; omega) (by show s1.toks ≠ s1.toks + 1; omega) hyz hb fun t' k => ⟨.str (rep1 x y z), H1, I1.tok k, ⟨t', rfl⟩, q⟩
theorem pat_of {es : List Expr} {ta : TA} (h : PA X es ta) : PAT X es ta := fun pos pins s σ H Q _ I q => h.run pos pins s σ H Q I q
/-- name = e, one token out -/
theorem pst_set {i : Nat} {x : Str} {e : Expr} {te : TE} {pos' pos : Pos} (hN : X.N.Nodup) (hi : X.N[i]? = some x) (hx : Loc X.env.scope x) (he : PET X e te)
    (hs : swapsWith e (some (.Name x pos')) pos.line X.env = pure false := by rfl) (hf : X.fn x = true ∨ X.env.scope.names.lookup x = some .local := by first | exact .inl rfl | exact .inr rfl | assumption) :
    PST X (.Assign [.Name x pos'] e pos) (tAsg te (gName i)) := by
  intro pins s σ H D h0 I h
  refine wpAny_Assign_Name (thn (he pins s σ H _ h0 I h) fun v s1 ⟨y, H1, I1, r1, q1⟩ => ?_) hs
  exact store_ok I1 hN hi hx r1 (fun s2 I2 => ⟨_, H1, I2, q1⟩) hf
/-- name = ['..', ..]: behind it a token is out -/
theorem pss_lstT {i : Nat} {x c : Str} {j : Nat} {cp lp pos' pos : Pos} {es : List Expr} {ta : TA} {rest : List Stmt} {u : TS} (hN : X.N.Nodup) (hi : X.N[i]? = some x) (hx : Loc X.env.scope x) (ha : PA X es ta) (h2 : PSsT X rest u)
    (hst : starEach (.Constant (.str c) j cp :: es) X.env = (false, eval (.Constant (.str c) j cp) X.env) :: starEach es X.env := by rfl)
    (hs : swapsWith (.List (.Constant (.str c) j cp :: es) lp) (some (.Name x pos')) pos.line X.env = pure false := by rfl) (hf : X.fn x = true ∨ X.env.scope.names.lookup x = some .local := by first | exact .inl rfl | exact .inr rfl | assumption) :
    PSs X (.Assign [.Name x pos'] (.List (.Constant (.str c) j cp :: es) lp) pos :: rest) (tSeq (tAsg (tLst (tCons (tC (.str c)) ta)) (gName i)) u) := by
  refine ⟨fun pins s σ H D I h => ?_⟩
  refine wpAny_execs_cons (wpAny_Assign_Name (wpAny_List_spliced ?_) hs)
  rw [hst]
  show wpAny _ _ (spliced ((false, eval (.Constant (.str c) j cp) X.env) :: backTo lp (starEach es X.env))) _ _ s
  refine Calls.spliced_cons (Calls.Constant_str ?_)
  refine wpAny_mono (PySem.wpAny_toks (ha.run lp pins { s with toks := s.toks + 1 } σ H _ (I.tok _) h)) (fun us s1 q => ?_) fun _ _ z => z.2
  obtain ⟨hk, xs, H1, I1, r1, z1, q⟩ := q
  have hk' : s.toks + 1 ≤ s1.toks := hk
  refine ⟨by show us.length + 1 ≤ sizeLine; rw [← r1.length]; exact z1, ?_⟩
  have hf' : H1 s1.heap.objs.size = none := I1.hok.fresh (Nat.le_refl _)
  have I2 : Inv X pins σ (upd H1 s1.heap.objs.size (.lst (.str c :: xs))) { s1 with heap := s1.heap.push { cls := .type "list", data := .seq (Value.str c s.toks :: us).toArray } } :=
    I1.laid (t' := s1.toks) (fun b u e => Heap.get?_push_of_some _ e) (Nat.le_refl _) ⟨z1, Value.str c s.toks :: us, 0, .cons ⟨_, rfl⟩ r1, Heap.get?_push_size _ rfl⟩
  refine wpAny_mono (PySem.wpAny_toks (store_ok (v := V.ref s1.heap.objs.size) (u := Value.ref s1.heap.objs.size) (Q := fun _ s2 => Inv X pins (σ.set i (some (V.ref s1.heap.objs.size))) (upd H1 s1.heap.objs.size (.lst (.str c :: xs))) s2) I2 hN hi hx rfl (fun _ I3 => I3) hf)) (fun _ s2 q2 => ?_) fun _ _ z => z.2
  have hk2 : s1.toks ≤ s2.toks := q2.1
  exact h2 pins s2 _ _ D (by omega) q2.2 (q _ hf')
/-! ### text * int -/
def rMulS : R2 := fun x y H Q => ∃ (z : Str) (n : Int), x = .str z ∧ y = .int n ∧ 1 ≤ n ∧ n ≤ 1000 ∧ z.length ≤ 10000 ∧ ∀ r, (∀ m, Fine m z → Fine (m * n.toNat) r) → Q (.str r) H
theorem fold_rep (cs : Array Nat) : ∀ (k : Nat) (acc : Array Nat), (List.foldl (fun x1 x2 => x1 ++ x2) acc (List.replicate k cs)).toList = acc.toList ++ (List.replicate k cs.toList).flatten
  | 0, acc => by simp
  | k + 1, acc => by
    rw [List.replicate_succ, List.foldl_cons, fold_rep cs k, Array.toList_append, List.replicate_succ, List.flatten_cons, List.append_assoc]
theorem op_mulS : OpR X (binaryOp .Mult) rMulS := by
  intro pins s σ H x y v u Q I rx ry h
  obtain ⟨z, n, rfl, rfl, h1, h2, hz, q⟩ := h
  obtain ⟨t, rfl⟩ := rx
  obtain ⟨t2, rfl⟩ := ry
  have hn : ((n.toNat : Nat) : Int) = n := by omega
  refine PySem.P.mul_str (by rw [decide_eq_false (by omega), decide_eq_false (by omega)]; rfl) (fun _ _ => ?_) (fun _ _ => ?_) ?_
  · have e : (2 ^ 63 - 1 : Int) / n ≥ (2 ^ 63 - 1) / 1000 := by
      refine Int.le_ediv_of_mul_le (by omega) ?_
      have : ((2 ^ 63 - 1 : Int) / 1000) * n ≤ ((2 ^ 63 - 1) / 1000) * 1000 := Int.mul_le_mul_of_nonneg_left h2 (by decide)
      omega
    omega
  · unfold Builtin.Str.tooLong
    have : z.length * n.toNat ≤ 10000 * 1000 := Nat.mul_le_mul hz (by omega)
    exact decide_eq_false (by have : (10000 * 1000 : Nat) ≤ sizeLine := by decide
                              omega)
  · rw [if_neg (by omega)]
    by_cases c : (n == 1 || z.length == 0) = true
    · rw [if_pos c]
      refine ⟨.str z, H, I, ⟨t, rfl⟩, q z fun m hm => ⟨hm.asc, ?_⟩⟩
      rcases Bool.or_eq_true_iff.mp c with c | c
      · have : n = 1 := by simpa using c
        have := hm.len
        rw [show n.toNat = 1 by omega, Nat.mul_one]; exact this
      · have : z.length = 0 := by simpa using c
        rw [this]; exact Nat.zero_le _
    · rw [if_neg c]
      have e : TL.tl (⟨(List.replicate n.toNat z.cps).foldl (· ++ ·) #[]⟩ : Str) = (List.replicate n.toNat (TL.tl z)).flatten := by
        have := fold_rep z.cps n.toNat #[]
        rw [show (#[] : Array Nat).toList = [] from rfl, List.nil_append] at this
        exact this
      have el : (⟨(List.replicate n.toNat z.cps).foldl (· ++ ·) #[]⟩ : Str).length = n.toNat * z.length := by
        rw [TL.len_tl, e, List.length_flatten, List.map_replicate, List.sum_replicate_nat, ← TL.len_tl]
      have hsz : n.toNat * z.length ≤ 1000 * 10000 := Nat.mul_le_mul (by omega) hz
      refine ⟨by rw [el]; exact Nat.le_trans hsz (by decide), .str _, H, I.tok _, ⟨_, rfl⟩, q _ fun m hm => ⟨fun c hc => ?_, ?_⟩⟩
      · rw [e] at hc
        obtain ⟨l, hl, hc2⟩ := List.mem_flatten.mp hc
        rw [List.eq_of_mem_replicate hl] at hc2
        exact hm.asc c hc2
      · rw [el, Nat.mul_comm]
        exact Nat.mul_le_mul_right _ hm.len
end
end Kw

set_option maxHeartbeats 4000000
/-! L1: the law's store and its draws. Printed by gen_l1.py. -/
namespace Kw
open PySem PySem.Spec PyProof.Rows L2
open C8 (Cal)
theorem take_split'' {α : Type} {l : List α} {j : Nat} {z : α} (h : l[j]? = some z) : l.take (j + 1) = l.take j ++ [z] := by
  rw [List.take_add_one, h]; rfl
theorem m61 : (0 : Int) < 2305843009213693951 := by decide
theorem m60 : (0 : Int) < 1000000000000000003 := by decide
theorem atI_ints {zs : List Int} {i : Int} (h0 : 0 ≤ i) (h : i.toNat < zs.length) : atI (zs.map V.int) i = some (V.int zs[i.toNat]) := by
  have e := atI_nat (xs := zs.map V.int) (j := i.toNat) (v := V.int zs[i.toNat]) (by rw [List.getElem?_map, List.getElem?_eq_getElem h]; rfl)
  rw [Int.toNat_of_nonneg h0] at e
  exact e
theorem line_small' {n : Nat} (h : n ≤ 16000000) : n < sizeLine := Nat.lt_of_le_of_lt h (by decide)
/-- the store at a, its cells at c -/
def Sto (H : Hp) (a c : Addr) : Prop := ∃ (zs : List Int) (pos rest cnt seed turn : Int), H a = some (.lst [.ref c, .int pos, .int rest, .int cnt, .int seed, .int turn]) ∧ H c = some (.lst (zs.map V.int)) ∧ c ≠ a ∧ zs.length ≤ 100 ∧ 0 ≤ pos ∧ pos ≤ zs.length ∧ (0 < cnt → 1 ≤ pos)
theorem Sto.same {H H' : Hp} {a c : Addr} (e : Same H H') : Sto H a c → Sto H' a c := fun ⟨zs, p, r, n, s, t, h1, h2, h⟩ => ⟨zs, p, r, n, s, t, e _ _ h1, e _ _ h2, h⟩
theorem Sto.lst {H : Hp} {a c : Addr} : Sto H a c → ∃ xs, H a = some (.lst xs) := fun ⟨zs, p, r, n, s, t, h1, h2, h⟩ => ⟨_, h1⟩
theorem Sto.cells {H : Hp} {a c : Addr} : Sto H a c → ∃ xs, H c = some (.lst xs) := fun ⟨zs, p, r, n, s, t, h1, h2, h⟩ => ⟨_, h2⟩
theorem Sto.own {H : Hp} {a c D : Addr} {o : HO} (ha : a ≠ D) (hc : c ≠ D) : Sto H a c → Sto (upd H D o) a c := fun ⟨zs, p, r, n, s, t, h1, h2, h⟩ => ⟨zs, p, r, n, s, t, by rw [upd_ne ha]; exact h1, by rw [upd_ne hc]; exact h2, h⟩
theorem Sto.ne {H : Hp} {a c D : Addr} (h : Sto H a c) (n : H D = none) : a ≠ D ∧ c ≠ D := by
  obtain ⟨xs, e⟩ := h.lst
  obtain ⟨ys, e2⟩ := h.cells
  exact ⟨ne_of_none e n, ne_of_none e2 n⟩
theorem Sto.put {H : Hp} {a c : Addr} {zs : List Int} {p r n s t : Int} (h2 : H c = some (.lst (zs.map V.int))) (hc : c ≠ a) (hl : zs.length ≤ 100) (h0 : 0 ≤ p) (h1 : p ≤ zs.length) (h3 : 0 < n → 1 ≤ p) :
    Sto (upd H a (.lst [.ref c, .int p, .int r, .int n, .int s, .int t])) a c := ⟨zs, p, r, n, s, t, upd_same, by rw [upd_ne hc]; exact h2, hc, hl, h0, h1, h3⟩
section
variable {P : Program} {w : World} {K : PySem.W.Frag} {mg : Str → Option Value} {base : Heap}
/-! ### _law_store -/
def spStore (K : PySem.W.Frag) : Sp := fun vs H Q _ => ∃ (a : Addr) (ns : List Int), vs = [.ref a] ∧ SqL K H a (ns.map V.int) ∧ ns.length ≤ 100 ∧ ∀ H' l c, Same H H' → H l = none → Sto H' l c → Q (.ref l) H'
theorem ok_store {f : Addr} {fd : FuncData} {k : Nat} (B : Bl mg) (F : L2.Fun K "_law_store" "_law_store" s_store f fd) : FnOk P w K mg base L2.CX0 (k + 1) f fd ["_law_script"] (spStore K) := by
  refine F.ok sc_store (fun vs H Q E h => ?_) (fun cdv A outer s H vs Q E hr h => ?_)
  · obtain ⟨a, ns, rfl, _⟩ := h
    rfl
  · obtain ⟨a, ns, rfl, hS, hl, q⟩ := h
    refine ⟨_, pss_cons (ps_setLc (i := 2) (own := [("_law_cell", 1)]) (g := gName 1) (tt := tYes) (by rfl) sc_store.nd rfl rfl (sw_true rfl rfl rfl (by decide +kernel)) (piL K (pv 0)) (blkOk_by (N := n_store) (sc := defScope s_store) (by decide +kernel)) (fun _ _ _ _ _ => pg_name (i := 1) sc_store.nd rfl (Or.inl rfl)) (fun _ _ _ _ _ => pts_nil) (fun _ _ _ _ _ => (pe_callTy call_int1 rfl B.int boot_ty_int (pa_cons (pv 1) pa_nil))))
      (pss_cons (ps_set (i := 3) sc_store.nd rfl (.inl rfl) (pe_op op_mul pe_int (pe_op op_add (pe_callB call_len_seq (by rfl) B.len boot_len (pa_cons (pv 2) pa_nil)) pe_int)))
      (pss_cons (ps_for PassesOwn.never rfl (pi_list (pv 2)) (pg_name (i := 1) sc_store.nd rfl (.inl rfl)) (pss_one (ps_set (i := 3) sc_store.nd rfl (.inl rfl) (pe_op op_mod (pe_callTy call_int1 rfl B.int boot_ty_int (pa_cons (pe_op op_add (pe_op op_mul (pv 3) pe_int) (pv 1)) pa_nil)) pe_int))))
      (pss_one (ps_ret (pe_lst (pa_cons (pv 2) (pa_cons pe_int (pa_cons pe_int (pa_cons pe_int (pa_cons (pv 3) (pa_cons pe_int pa_nil))))))))))), ?_⟩
    refine ⟨.ref a, rfl, a, rfl, ⟨_, hS⟩, fun D nD => ?_⟩
    refine lc_it (walk_list (xs := ns.map V.int)) (fun i H4 => Same H H4 ∧ H4 D = some (.lst ((ns.take i).map V.int))) ⟨same_new nD, upd_same⟩ (fun i H4 _ ⟨s, _⟩ => Same.seq s hS) ?_ ?_
    · rintro i x H4 H5 hi ⟨s4, D4⟩ ⟨rfl, e2⟩
      obtain ⟨z, hz, rfl⟩ := int_at (show (ns.map V.int)[i]? = some x from e2)
      refine ⟨rfl, yesT ⟨.int z, rfl, .inl ⟨z, rfl, _, D4, ?_, s4.own nD, ?_⟩⟩⟩
      · rw [List.length_map, List.length_take]; exact line_small' (by omega)
      · rw [upd_same, List.take_add_one, hz, List.map_append]; rfl
    · rintro H1 ⟨s1, D1⟩
      rw [List.length_map, List.take_length] at D1
      refine ⟨.ref D, rfl, D, _, rfl, .inl (SqL.of D1), _, 1, rfl, rfl, 862933555777941, _, rfl, rfl, .inl ⟨by omega, by omega⟩, ?_⟩
      refine ⟨.ref D, rfl, D, rfl, ⟨_, SqL.of D1⟩, ?_⟩
      refine for_it (walk_list (xs := ns.map V.int)) (fun i σ H3 => ∃ y z, σ = [some (.ref a), y, some (.ref D), some (.int z)] ∧ H3 = H1) ⟨none, _, rfl, rfl⟩ (fun i σ H3 _ ⟨_, _, _, e⟩ => by rw [e]; exact SqL.of D1) ?_ ?_
      · rintro i x σ H3 H4 hi ⟨y, z, rfl, rfl⟩ ⟨rfl, e2⟩
        obtain ⟨u, hu, rfl⟩ := int_at (show (ns.map V.int)[i]? = some x from e2)
        refine ⟨.int z, rfl, z, 1000003, rfl, rfl, .inr ⟨by omega, by omega⟩, .int u, rfl, _, u, rfl, rfl, .inl ⟨_, rfl, _, _, rfl, rfl, by first | exact m61 | exact m60, ?_⟩⟩
        exact ⟨_, _, rfl, rfl⟩
      · rintro σ H3 ⟨y, z, rfl, rfl⟩
        refine ⟨.ref D, rfl, .int z, rfl, by show 6 ≤ sizeLine; decide, fun l nl => ?_⟩
        have Dl : D ≠ l := ne_of_none D1 nl
        exact q _ l D (s1.new nl) (s1.free nl) (Sto.put (zs := ns) D1 Dl hl (by omega) (by omega) (by omega))
/-! ### _law_mixed -/
def spMixed : Sp := fun vs H Q _ => ∃ x y : Int, vs = [.int x, .int y] ∧ ∀ r : Int, 0 ≤ r → Q (.int r) H
theorem ok_mixed {f : Addr} {fd : FuncData} {k : Nat} (B : Bl mg) (F : L2.Fun K "_law_mixed" "_law_mixed" s_mixed f fd) : FnOk P w K mg base L2.CX0 (k + 1) f fd ["_law_number", "_law_turn"] spMixed := by
  refine F.ok sc_mixed (fun vs H Q E h => ?_) (fun cdv A outer s H vs Q E hr h => ?_)
  · obtain ⟨x, y, rfl, _⟩ := h
    rfl
  · obtain ⟨x, y, rfl, q⟩ := h
    refine ⟨_, pss_cons (ps_set (i := 2) sc_mixed.nd rfl (.inl rfl) (pe_op op_mod (pe_callTy call_int1 rfl B.int boot_ty_int (pa_cons (pe_op op_add (pe_op op_add (pe_op op_mul (pv 0) pe_int) (pe_op op_mul (pv 1) pe_int)) pe_int) pa_nil)) pe_int))
      (pss_cons (ps_set (i := 2) sc_mixed.nd rfl (.inl rfl) (pe_op op_mod (pe_callTy call_int1 rfl B.int boot_ty_int (pa_cons (pe_op op_mul (pv 2) (pv 2)) pa_nil)) pe_int))
      (pss_cons (ps_set (i := 2) sc_mixed.nd rfl (.inl rfl) (pe_op op_mod (pe_callTy call_int1 rfl B.int boot_ty_int (pa_cons (pe_op op_add (pe_op op_add (pe_op op_mul (pv 2) pe_int) (pv 1)) pe_int) pa_nil)) pe_int))
      (pss_one (ps_ret (pe_op op_mod (pe_callTy call_int1 rfl B.int boot_ty_int (pa_cons (pe_op op_mul (pv 2) (pv 2)) pa_nil)) pe_int))))), ?_⟩
    have em : ∀ (z m : Int), 0 < m → m ≤ 2305843009213693951 → (-(2 ^ 64) < z % m ∧ z % m < 2 ^ 64) := fun z m h1 h2 => by
      have := Int.emod_nonneg z (show m ≠ 0 by omega)
      have := Int.emod_lt_of_pos z h1
      omega
    refine ⟨.int x, rfl, x, _, rfl, rfl, .inr ⟨by omega, by omega⟩, .int y, rfl, y, _, rfl, rfl, .inr ⟨by omega, by omega⟩, _, _, rfl, rfl, _, _, rfl, rfl, .inl ⟨_, rfl, _, _, rfl, rfl, by first | exact m61 | exact m60, ?_⟩⟩
    refine ⟨.int _, rfl, .int _, rfl, _, _, rfl, rfl, .inl (em _ _ (by decide) (by decide)), .inl ⟨_, rfl, _, _, rfl, rfl, by first | exact m61 | exact m60, ?_⟩⟩
    refine ⟨.int _, rfl, _, _, rfl, rfl, .inr ⟨by omega, by omega⟩, .int y, rfl, _, y, rfl, rfl, _, _, rfl, rfl, .inl ⟨_, rfl, _, _, rfl, rfl, by first | exact m61 | exact m60, ?_⟩⟩
    refine ⟨.int _, rfl, .int _, rfl, _, _, rfl, rfl, .inl (em _ _ (by decide) (by decide)), .inl ⟨_, rfl, _, _, rfl, rfl, by first | exact m61 | exact m60, ?_⟩⟩
    exact q _ (Int.emod_nonneg _ (by decide))
/-! ### _law_take -/
def spTake : Sp := fun vs H Q _ => ∃ (a c : Addr) (m : Int), vs = [.ref a, .int m] ∧ m ≤ 100000 ∧ Sto H a c ∧ ∀ (r : Int) H', 0 ≤ r → (r < m ∨ r = 0) → But a H H' → Sto H' a c → Q (.int r) H'
theorem ok_take {f : Addr} {fd : FuncData} {k : Nat} (B : Bl mg) (cM : Cal P w K mg base 1 "_law_mixed" spMixed []) (F : L2.Fun K "_law_take" "_law_take" s_take f fd) : FnOk P w K mg base L2.CX0 (k + 2) f fd ["_law_store_here", "_law_many"] spTake := by
  refine F.ok sc_take (fun vs H Q E h => ?_) (fun cdv A outer s H vs Q E hr h => ?_)
  · obtain ⟨a, c, m, rfl, _⟩ := h
    rfl
  · obtain ⟨a, c, m, rfl, hm, ⟨zs, pos, rest, cnt, seed, turn, ha, hc, hca, hz, p0, p1, pc⟩, q⟩ := h
    -- the end: a new turn
    have T2 : ∃ t2, PSs (cxOf L2.CX0 P w K mg base n_take "_law_take" (defScope s_take) f cdv A outer s H E).nox ((defBody s_take).drop 5) t2 ∧ (2 ≤ m → ∀ (H2 : Hp) (p r n turn num : Int) (y2 y3 y5 y6 : Option V), But a H H2 → H2 a = some (.lst [.ref c, .int p, .int r, .int n, .int seed, .int turn]) → H2 c = some (.lst (zs.map V.int)) → 0 ≤ p → p ≤ zs.length → (0 < n → 1 ≤ p) →
        t2 { nx := fun _ H' => Q .non H', rt := Q } [some (.ref a), some (.int m), y2, y3, some (.int num), y5, y6] H2) := by
      refine ⟨_, pss_cons (ps_asg (pe_op op_add (pe_ix ix_list (pv 0) pe_int fun _ _ => rfl) pe_int) (pg_sub (pv 0) pe_int set_list))
      (pss_cons (ps_set (i := 5) sc_take.nd rfl (.inl rfl) pe_int)
      (pss_cons (ps_for PassesOwn.never rfl (pi_range1 rfl B.range (pa_cons (pe_op op_add pe_int (pe_op op_mul pe_int (pe_callTy call_int1 rfl B.int boot_ty_int (pa_cons (pe_cmpR op_gt (pv 1) (pe_op op_pow pe_int pe_int) (nomark _)) pa_nil)))) pa_nil)) (pg_name (i := 6) sc_take.nd rfl (.inl rfl)) (pss_one (ps_set (i := 5) sc_take.nd rfl (.inl rfl) (pe_op op_add (pe_op op_mul (pv 5) (pe_op op_pow pe_int pe_int)) (C8.pe_c cM hr (by omega) rfl (pa_cons (pv 4) (pa_cons (pe_op op_add (pe_op op_mul pe_int (pe_ix ix_list (pv 0) pe_int fun _ _ => rfl)) (pv 6)) pa_nil)))))))
      (pss_one (ps_ret (pe_op op_mod (pe_callTy call_int1 rfl B.int boot_ty_int (pa_cons (pv 5) pa_nil)) (pv 1)))))), ?_⟩
      intro h2 H2 p r n turn num y2 y3 y5 y6 bt ea ec q0 q1 qc
      refine ⟨.ref a, rfl, _, _, 5, _, rfl, rfl, SqL.of ea, rfl, ⟨turn, 1, rfl, rfl, .ref a, rfl, a, _, 5, 5, rfl, rfl, ea, rfl, ?_⟩⟩
      have eb : (upd H2 a (.lst [.ref c, .int p, .int r, .int n, .int seed, .int (turn + 1)])) a = some (.lst [.ref c, .int p, .int r, .int n, .int seed, .int (turn + 1)]) := upd_same
      refine ⟨.int m, rfl, 10, 12, rfl, rfl, ⟨by omega, by omega, by decide⟩, m, _, rfl, rfl, .inr ⟨_, rfl, ?_⟩⟩
      have hk : decide ((10 : Int) ^ (12 : Int).toNat < m) = false := decide_eq_false (by show ¬ (1000000000000 : Int) < m; omega)
      rw [hk]
      refine ⟨2, _, rfl, rfl, .inl ⟨by omega, by omega⟩, 1, _, rfl, rfl, _, rfl, by decide, by decide, ?_⟩
      refine for_it walk_range (fun i σ H3 => ∃ z y6, σ = [some (.ref a), some (.int m), y2, y3, some (.int num), some (.int z), y6] ∧ H3 = upd H2 a (.lst [.ref c, .int p, .int r, .int n, .int seed, .int (turn + 1)])) ⟨0, y6, rfl, rfl⟩ (fun _ _ _ _ _ => trivial) ?_ ?_
      · rintro i x σ H3 H4 hi ⟨z, y6, rfl, rfl⟩ ⟨rfl, rfl⟩
        refine ⟨.int z, rfl, 10, 18, rfl, rfl, ⟨by omega, by omega, by decide⟩, z, _, rfl, rfl, .inr ⟨by decide, by decide⟩, .int num, rfl, .ref a, rfl, _, _, 5, _, rfl, rfl, SqL.of eb, rfl, 3, turn + 1, rfl, rfl, .inl ⟨by omega, by omega⟩, .int (0 + (i : Nat)), rfl, _, _, rfl, rfl, num, _, rfl, fun r' hr' => ?_⟩
        exact ⟨_, _, rfl, rfl, _, _, rfl, rfl⟩
      · rintro σ H3 ⟨z, y6, rfl, rfl⟩
        refine ⟨.int z, rfl, .inl ⟨z, rfl, .int m, rfl, z, m, rfl, rfl, (show 0 < m by omega), ?_⟩⟩
        exact q _ _ (Int.emod_nonneg _ (by omega)) (.inl (Int.emod_lt_of_pos _ (by omega))) bt.at (Sto.put (zs := zs) ec hca hz q0 q1 qc)
    -- from the second if on
    have T1 : ∃ t1, PSs (cxOf L2.CX0 P w K mg base n_take "_law_take" (defScope s_take) f cdv A outer s H E).nox ((defBody s_take).drop 2) t1 ∧ (2 ≤ m → ∀ (H2 : Hp) (p r n : Int) (y2 y3 y4 y5 y6 : Option V), But a H H2 → H2 a = some (.lst [.ref c, .int p, .int r, .int n, .int seed, .int turn]) → H2 c = some (.lst (zs.map V.int)) → 0 ≤ p → p ≤ zs.length → (0 < n → 1 ≤ p) →
        t1 { nx := fun _ H' => Q .non H', rt := Q } [some (.ref a), some (.int m), y2, y3, y4, y5, y6] H2) := by
      obtain ⟨t2, hP2, hq2⟩ := T2
      refine ⟨_, pss_cons (ps_if (pt_cmpR op_gt (pe_ix ix_list (pv 0) pe_int fun _ _ => rfl) pe_int (nomark _)) (pss_cons (ps_set (i := 3) sc_take.nd rfl (.inl rfl) (pe_op op_mod (pe_callTy call_int1 rfl B.int boot_ty_int (pa_cons (pe_ix ix_list (pv 0) pe_int fun _ _ => rfl) pa_nil)) (pv 1)))
      (pss_cons (ps_asg (pe_op op_fdiv (pe_callTy call_int1 rfl B.int boot_ty_int (pa_cons (pe_ix ix_list (pv 0) pe_int fun _ _ => rfl) pa_nil)) (pv 1)) (pg_sub (pv 0) pe_int set_list))
      (pss_one (ps_ret (pv 3))))) pss_nil)
        (pss_cons (ps_set (i := 4) sc_take.nd rfl (.inl rfl) (pe_ix ix_list (pv 0) pe_int fun _ _ => rfl))
        (pss_cons (ps_if (pt_cmpR op_gt (pe_ix ix_list (pv 0) pe_int fun _ _ => rfl) pe_int (nomark _)) (pss_cons (ps_asg (pe_op op_sub (pe_ix ix_list (pv 0) pe_int fun _ _ => rfl) pe_int) (pg_sub (pv 0) pe_int set_list))
      (pss_one (ps_set (i := 4) sc_take.nd rfl (.inl rfl) (pe_op op_add (pv 4) (pe_op op_mul pe_int (pe_ix ix_list (pe_ix ix_list (pv 0) pe_int fun _ _ => rfl) (pe_op op_sub (pe_ix ix_list (pv 0) pe_int fun _ _ => rfl) pe_int) fun _ _ => rfl)))))) pss_nil)
        (hP2))), ?_⟩
      intro h2 H2 p r n y2 y3 y4 y5 y6 bt ea ec q0 q1 qc
      refine ⟨.ref a, rfl, _, _, 2, _, rfl, rfl, SqL.of ea, rfl, ⟨r, 1, rfl, rfl, _, rfl, ?_⟩⟩
      by_cases c1 : r > 1
      · rw [decide_eq_true c1]
        refine iteT ⟨.ref a, rfl, _, _, 2, _, rfl, rfl, SqL.of ea, rfl, (.inl ⟨r, rfl, .int m, rfl, r, m, rfl, rfl, (show 0 < m by omega), ?_⟩)⟩
        refine ⟨.ref a, rfl, _, _, 2, _, rfl, rfl, SqL.of ea, rfl, (.inl ⟨r, rfl, .int m, rfl, r, m, rfl, rfl, ⟨by omega, by omega⟩, .ref a, rfl, a, _, 2, 2, rfl, rfl, ea, rfl, ?_⟩)⟩
        exact ⟨.int (r % m), rfl, q _ _ (Int.emod_nonneg _ (by omega)) (.inl (Int.emod_lt_of_pos _ (by omega))) bt.at (Sto.put (zs := zs) ec hca hz q0 q1 qc)⟩
      · rw [decide_eq_false c1]
        refine iteF ⟨.ref a, rfl, _, _, 4, _, rfl, rfl, SqL.of ea, rfl, ?_⟩
        refine ⟨.ref a, rfl, _, _, 3, _, rfl, rfl, SqL.of ea, rfl, ⟨n, 0, rfl, rfl, _, rfl, ?_⟩⟩
        by_cases c3 : n > 0
        · rw [decide_eq_true c3]
          have p1 := qc c3
          refine iteT ⟨.ref a, rfl, _, _, 3, _, rfl, rfl, SqL.of ea, rfl, ⟨n, 1, rfl, rfl, .ref a, rfl, a, _, 3, 3, rfl, rfl, ea, rfl, ?_⟩⟩
          have eb : (upd H2 a (.lst [.ref c, .int p, .int r, .int (n - 1), .int seed, .int turn])) a = some (.lst [.ref c, .int p, .int r, .int (n - 1), .int seed, .int turn]) := upd_same
          have ebc : (upd H2 a (.lst [.ref c, .int p, .int r, .int (n - 1), .int seed, .int turn])) c = some (.lst (zs.map V.int)) := by rw [upd_ne hca]; exact ec
          have hpz : (p - 1).toNat < zs.length := by omega
          have hz1 : zs[(p - 1).toNat]? = some zs[(p - 1).toNat] := List.getElem?_eq_getElem hpz
          refine ⟨.int seed, rfl, .ref a, rfl, _, _, 0, _, rfl, rfl, SqL.of eb, rfl, ⟨.ref a, rfl, _, _, 1, _, rfl, rfl, SqL.of eb, rfl, ⟨p, 1, rfl, rfl, c, _, p - 1, .int zs[(p - 1).toNat], rfl, rfl, SqL.of ebc, ?_, 1000003, _, rfl, rfl, .inl ⟨by omega, by omega⟩, _, _, rfl, rfl, ?_⟩⟩⟩
          · exact atI_ints (by omega) hpz
          · exact hq2 h2 _ p r (n - 1) turn _ y2 y3 y5 y6 bt.at eb ebc q0 q1 (fun _ => p1)
        · rw [decide_eq_false c3]
          exact iteF (hq2 h2 H2 p r n turn seed y2 y3 y5 y6 bt ea ec q0 q1 qc)
    obtain ⟨t1, hP1, hq1⟩ := T1
    refine ⟨_, pss_cons (ps_if (pt_cmpR op_lt (pv 1) pe_int (nomark _)) (pss_one (ps_ret pe_int)) pss_nil)
      (pss_cons (ps_if (PW.pt (pw_and (pt_cmpR op_lt (pe_ix ix_list (pv 0) pe_int fun _ _ => rfl) pe_int (nomark _)) (pw_and (pt_cmpR op_lt (pe_ix ix_list (pv 0) pe_int fun _ _ => rfl) pe_int (nomark _)) (pw_and1 (pt_cmpR op_lt (pe_ix ix_list (pv 0) pe_int fun _ _ => rfl) (pe_callB call_len_seq (by rfl) B.len boot_len (pa_cons (pe_ix ix_list (pv 0) pe_int fun _ _ => rfl) pa_nil)) (nomark _)))))) (pss_cons (ps_set (i := 2) sc_take.nd rfl (.inl rfl) (pe_callB call_abs (by rfl) B.abs boot_abs (pa_cons (pe_ix ix_list (pe_ix ix_list (pv 0) pe_int fun _ _ => rfl) (pe_ix ix_list (pv 0) pe_int fun _ _ => rfl) fun _ _ => rfl) pa_nil)))
      (pss_cons (ps_asg (pe_op op_add (pe_ix ix_list (pv 0) pe_int fun _ _ => rfl) pe_int) (pg_sub (pv 0) pe_int set_list))
      (pss_one (ps_if (pt_cmpR op_lt (pv 2) (pe_op op_pow pe_int pe_int) (nomark _)) (pss_one (ps_asg pe_int (pg_sub (pv 0) pe_int set_list))) (pss_one (ps_asg (pv 2) (pg_sub (pv 0) pe_int set_list))))))) pss_nil)
      (hP1)), ?_⟩
    -- if many < 2
    refine ⟨.int m, rfl, m, 2, rfl, rfl, _, rfl, ?_⟩
    by_cases cm : m < 2
    · rw [decide_eq_true cm]
      exact iteT (q 0 H (by omega) (.inr rfl) (But.refl a H) ⟨zs, pos, rest, cnt, seed, turn, ha, hc, hca, hz, p0, p1, pc⟩)
    rw [decide_eq_false cm]
    have m2 : 2 ≤ m := by omega
    refine iteF ⟨.ref a, rfl, _, _, 2, _, rfl, rfl, SqL.of ha, rfl, ⟨rest, 2, rfl, rfl, _, rfl, ?_⟩⟩
    by_cases c1 : rest < 2
    · rw [decide_eq_true c1]
      refine iteT ⟨.ref a, rfl, _, _, 3, _, rfl, rfl, SqL.of ha, rfl, ⟨cnt, 1, rfl, rfl, _, rfl, ?_⟩⟩
      by_cases c2 : cnt < 1
      · rw [decide_eq_true c2]
        refine iteT ⟨.ref a, rfl, _, _, 1, _, rfl, rfl, SqL.of ha, rfl, ⟨.ref a, rfl, _, _, 0, _, rfl, rfl, SqL.of ha, rfl, ⟨c, _, rfl, .inl (SqL.of hc), pos, _, rfl, rfl, _, rfl, ?_⟩⟩⟩
        rw [List.length_map]
        by_cases c3 : pos < (zs.length : Nat)
        · rw [decide_eq_true c3]
          have hpz : pos.toNat < zs.length := by omega
          have hz1 : zs[pos.toNat]? = some zs[pos.toNat] := List.getElem?_eq_getElem hpz
          have ep : pos = ((pos.toNat : Nat) : Int) := by omega
          refine iteT ⟨.ref a, rfl, _, _, 0, _, rfl, rfl, SqL.of ha, rfl, ⟨.ref a, rfl, _, _, 1, _, rfl, rfl, SqL.of ha, rfl, ⟨c, _, pos, .int zs[pos.toNat], rfl, rfl, SqL.of hc, ?_, zs[pos.toNat], rfl, ?_⟩⟩⟩
          · exact atI_ints p0 hpz
          generalize (if zs[pos.toNat] < 0 then -zs[pos.toNat] else zs[pos.toNat]) = cell
          refine ⟨.ref a, rfl, _, _, 1, _, rfl, rfl, SqL.of ha, rfl, ⟨pos, 1, rfl, rfl, .ref a, rfl, a, _, 1, 1, rfl, rfl, ha, rfl, ?_⟩⟩
          have eb : (upd H a (.lst [.ref c, .int (pos + 1), .int rest, .int cnt, .int seed, .int turn])) a = some (.lst [.ref c, .int (pos + 1), .int rest, .int cnt, .int seed, .int turn]) := upd_same
          have ebc : (upd H a (.lst [.ref c, .int (pos + 1), .int rest, .int cnt, .int seed, .int turn])) c = some (.lst (zs.map V.int)) := by rw [upd_ne hca]; exact hc
          refine ⟨.int cell, rfl, 10, 18, rfl, rfl, ⟨by omega, by omega, by decide⟩, cell, _, rfl, rfl, _, rfl, ?_⟩
          by_cases c4 : cell < (10 : Int) ^ (18 : Int).toNat
          · rw [decide_eq_true c4]
            refine iteT ⟨.ref a, rfl, a, _, 3, 3, rfl, rfl, eb, rfl, ?_⟩
            exact hq1 m2 _ (pos + 1) rest 4 _ _ _ _ _ (But.refl a H).at.at upd_same (by rw [upd_ne hca]; exact ebc) (by omega) (by omega) (by omega)
          · rw [decide_eq_false c4]
            refine iteF ⟨.int cell, rfl, .ref a, rfl, a, _, 2, 2, rfl, rfl, eb, rfl, ?_⟩
            exact hq1 m2 _ (pos + 1) cell cnt _ _ _ _ _ (But.refl a H).at.at upd_same (by rw [upd_ne hca]; exact ebc) (by omega) (by omega) (by omega)
        · rw [decide_eq_false c3]
          exact iteF (hq1 m2 H pos rest cnt _ _ _ _ _ (But.refl a H) ha hc p0 p1 pc)
      · rw [decide_eq_false c2]
        exact iteF (hq1 m2 H pos rest cnt _ _ _ _ _ (But.refl a H) ha hc p0 p1 pc)
    · rw [decide_eq_false c1]
      exact iteF (hq1 m2 H pos rest cnt _ _ _ _ _ (But.refl a H) ha hc p0 p1 pc)
end
end Kw

set_option maxHeartbeats 4000000
/-! M2: the law's draws of values and texts. Printed by gen_m2.py. -/
namespace Kw
open PySem PySem.Spec PyProof.Rows L2
open C8 (Cal)
theorem But.free {a c D : Addr} {H H1 : Hp} (x : But a H H1) (hs : Sto H1 a c) (h : H1 D = none) : H D = none := by
  obtain ⟨xs, e⟩ := hs.lst
  cases hd : H D with
  | none => rfl
  | some o =>
    have n : D ≠ a := fun q => by rw [q, e] at h; cases h
    rw [x D o n hd] at h; cases h
theorem But.tup {K : PySem.W.Frag} {a c p : Addr} {H H1 : Hp} {xs : List V} (x : But a H H1) (hs : Sto H a c) (h : SqT K H p xs) : SqT K H1 p xs := by
  obtain ⟨ys, e⟩ := hs.lst
  rcases h with (h | ⟨o, h⟩) | h
  · exact .inl (.inl (x _ _ (fun q => by rw [q, e] at h; cases h) h))
  · exact .inl (.inr ⟨o, x _ _ (fun q => by rw [q, e] at h; cases h) h⟩)
  · exact .inr h
/-- what one may pick from -/
def RowOk (K : PySem.W.Frag) (H : Hp) (a : Addr) (row : V) (Pr : V → Prop) : Prop :=
  (∃ z : Str, row = .str z ∧ 1 ≤ z.length ∧ z.length ≤ 90000 ∧ ∀ (i : Int) c, atI z.cps.toList i = some c → Pr (.str ⟨#[c]⟩)) ∨
  (∃ (p : Addr) (xs : List V), row = .ref p ∧ SqT K H p xs ∧ 1 ≤ xs.length ∧ xs.length ≤ 90000 ∧ ∀ v ∈ xs, Pr v) ∨
  (∃ (p : Addr) (xs : List V), row = .ref p ∧ p ≠ a ∧ H p = some (.lst xs) ∧ 1 ≤ xs.length ∧ xs.length ≤ 90000 ∧ ∀ v ∈ xs, Pr v)
section
variable {P : Program} {w : World} {K : PySem.W.Frag} {mg : Str → Option Value} {base : Heap}
def spOnce : Sp := fun vs H Q _ => ∃ (a c : Addr) (m : Int), vs = [.ref a, .int m] ∧ m ≤ 100000 ∧ Sto H a c ∧ ∀ (b : Bool) H', But a H H' → Sto H' a c → Q (.bl b) H'
theorem ok_once {f : Addr} {fd : FuncData} {k : Nat} (cT : Cal P w K mg base 2 "_law_take" spTake []) (F : L2.Fun K "_law_once" "_law_once" s_once f fd) : FnOk P w K mg base L2.CX0 (k + 3) f fd ["_law_store_here", "_law_many"] spOnce := by
  refine F.ok sc_once (fun vs H Q E h => ?_) (fun cdv A outer s H vs Q E hr h => ?_)
  · obtain ⟨a, c, m, rfl, _⟩ := h
    rfl
  · obtain ⟨a, c, m, rfl, hm, hs, q⟩ := h
    refine ⟨_, pss_one (ps_ret (pe_cmpR op_eq (C8.pe_c cT hr (by omega) rfl (pa_cons (pv 0) (pa_cons (pv 1) pa_nil))) pe_int (nomark _))), ?_⟩
    exact ⟨.ref a, rfl, .int m, rfl, a, c, m, rfl, hm, hs, fun r H' h0 h1 bt hs' => ⟨rfl, q _ H' bt hs'⟩⟩
def spPick (K : PySem.W.Frag) : Sp := fun vs H Q _ => ∃ (a c : Addr) (row : V) (Pr : V → Prop), vs = [.ref a, row] ∧ Sto H a c ∧ RowOk K H a row Pr ∧ ∀ v H', Pr v → But a H H' → Sto H' a c → Q v H'
theorem ok_pick {f : Addr} {fd : FuncData} {k : Nat} (B : Bl mg) (cT : Cal P w K mg base 2 "_law_take" spTake []) (F : L2.Fun K "_law_pick" "_law_pick" s_pick f fd) : FnOk P w K mg base L2.CX0 (k + 3) f fd ["_law_store_here", "_law_row"] (spPick K) := by
  refine F.ok sc_pick (fun vs H Q E h => ?_) (fun cdv A outer s H vs Q E hr h => ?_)
  · obtain ⟨a, c, row, Pr, rfl, _⟩ := h
    rfl
  · obtain ⟨a, c, row, Pr, rfl, hs, hrow, q⟩ := h
    refine ⟨_, pss_one (ps_ret (pe_ix ix_seq (pv 1) (C8.pe_c cT hr (by omega) rfl (pa_cons (pv 0) (pa_cons (pe_callB (CallR.or call_len_seq call_len_str) (by rfl) B.len boot_len (pa_cons (pv 1) pa_nil)) pa_nil))) fun _ _ => rfl)), ?_⟩
    have at_ : ∀ (xs : List V) (r : Int), 0 ≤ r → (r < (xs.length : Int) ∨ r = 0) → 1 ≤ xs.length → ∃ v, v ∈ xs ∧ atI xs r = some v := fun xs r h0 h1 h2 => by
      have hi : r.toNat < xs.length := by omega
      refine ⟨xs[r.toNat], List.getElem_mem hi, ?_⟩
      have e := atI_nat (List.getElem?_eq_getElem hi)
      rw [Int.toNat_of_nonneg h0] at e
      exact e
    rcases hrow with ⟨z, rfl, z1, z2, hP⟩ | ⟨p, xs, rfl, hT, x1, x2, hP⟩ | ⟨p, xs, rfl, pa, hL, x1, x2, hP⟩
    · refine ⟨.str z, rfl, .ref a, rfl, .str z, rfl, .inr ⟨z, rfl, Nat.le_trans z2 (by decide), a, c, z.length, rfl, by omega, hs, fun r H' h0 h1 bt hs' => ?_⟩⟩
      have hi : r.toNat < z.cps.toList.length := by
        have e : z.length = z.cps.toList.length := TL.len_tl z
        omega
      have e := atI_nat (List.getElem?_eq_getElem hi)
      rw [Int.toNat_of_nonneg h0] at e
      exact .inr (.inr ⟨z, r, _, rfl, rfl, Nat.le_trans z2 (by decide), e, q _ H' (hP _ _ e) bt hs'⟩)
    · refine ⟨.ref p, rfl, .ref a, rfl, .ref p, rfl, .inl ⟨p, xs, rfl, .inr hT, a, c, xs.length, rfl, by omega, hs, fun r H' h0 h1 bt hs' => ?_⟩⟩
      obtain ⟨v, hv, e⟩ := at_ xs r h0 h1 x1
      exact .inr (.inl ⟨p, xs, r, v, rfl, rfl, bt.tup hs hT, e, q v H' (hP v hv) bt hs'⟩)
    · refine ⟨.ref p, rfl, .ref a, rfl, .ref p, rfl, .inl ⟨p, xs, rfl, .inl (SqL.of hL), a, c, xs.length, rfl, by omega, hs, fun r H' h0 h1 bt hs' => ?_⟩⟩
      obtain ⟨v, hv, e⟩ := at_ xs r h0 h1 x1
      exact .inl ⟨p, xs, r, v, rfl, rfl, SqL.of (bt _ _ pa hL), e, q v H' (hP v hv) bt hs'⟩
def spBetween : Sp := fun vs H Q _ => ∃ (a c : Addr) (lo hi : Int), vs = [.ref a, .int lo, .int hi] ∧ hi - lo ≤ 90000 ∧ Sto H a c ∧ ∀ (r : Int) H', lo ≤ r → (r ≤ hi ∨ r = lo) → But a H H' → Sto H' a c → Q (.int r) H'
theorem ok_between {f : Addr} {fd : FuncData} {k : Nat} (cT : Cal P w K mg base 2 "_law_take" spTake []) (cO : Cal P w K mg base 3 "_law_once" spOnce []) (cP : Cal P w K mg base 3 "_law_pick" (spPick K) []) (F : L2.Fun K "_law_between" "_law_between" s_between f fd) :
    FnOk P w K mg base L2.CX0 (k + 4) f fd ["_law_store_here", "_law_low", "_law_high"] spBetween := by
  refine F.ok sc_between (fun vs H Q E h => ?_) (fun cdv A outer s H vs Q E hr h => ?_)
  · obtain ⟨a, c, lo, hi, rfl, _⟩ := h
    rfl
  · obtain ⟨a, c, lo, hi, rfl, hb, hs, q⟩ := h
    refine ⟨_, pss_cons (ps_if (pt_cmpR op_le (pv 2) (pv 1) (nomark _)) (pss_one (ps_ret (pv 1))) pss_nil)
      (pss_cons (ps_if (pt_val (C8.pe_c cO hr (by omega) rfl (pa_cons (pv 0) (pa_cons pe_int pa_nil)))) (pss_one (ps_ret (C8.pe_c cP hr (by omega) rfl (pa_cons (pv 0) (pa_cons (pe_tup (pa_cons (pv 1) (pa_cons (pe_op op_add (pv 1) pe_int) (pa_cons (pv 2) pa_nil)))) pa_nil))))) pss_nil)
      (pss_one (ps_ret (pe_op op_add (pv 1) (C8.pe_c cT hr (by omega) rfl (pa_cons (pv 0) (pa_cons (pe_op op_add (pe_op op_sub (pv 2) (pv 1)) pe_int) pa_nil))))))), ?_⟩
    refine ⟨.int hi, rfl, .int lo, rfl, hi, lo, rfl, rfl, _, rfl, ?_⟩
    by_cases cc : hi ≤ lo
    · rw [decide_eq_true cc]
      exact iteT ⟨.int lo, rfl, q lo H (Int.le_refl _) (.inr rfl) (But.refl a H) hs⟩
    · rw [decide_eq_false cc]
      refine iteF ⟨.ref a, rfl, a, c, 3, rfl, by omega, hs, fun b H1 bt1 hs1 => ⟨b, rfl, ?_⟩⟩
      cases b with
      | true =>
        refine iteT ⟨.ref a, rfl, .int lo, rfl, .int lo, rfl, lo, 1, rfl, rfl, .int hi, rfl, by show 3 ≤ sizeLine; decide, fun p np => ?_⟩
        refine ⟨a, c, .ref p, (fun v => ∃ r : Int, v = .int r ∧ lo ≤ r ∧ r ≤ hi), rfl, hs1.same (same_new np), .inr (.inl ⟨p, _, rfl, .inl (.inl upd_same), by show 1 ≤ 3; decide, by show 3 ≤ 90000; decide, fun v hv => ?_⟩), fun v H2 hv bt2 hs2 => ?_⟩
        · rcases List.mem_cons.mp hv with e | hv
          · exact ⟨lo, e, by omega, by omega⟩
          rcases List.mem_cons.mp hv with e | hv
          · exact ⟨lo + 1, e, by omega, by omega⟩
          · exact ⟨hi, List.mem_singleton.mp hv, by omega, by omega⟩
        · obtain ⟨r, rfl, h1, h2⟩ := hv
          exact q r H2 h1 (.inl h2) ((bt1.new np).trans bt2) hs2
      | false =>
        refine iteF ⟨.int lo, rfl, .ref a, rfl, .int hi, rfl, .int lo, rfl, hi, lo, rfl, rfl, hi - lo, 1, rfl, rfl, a, c, hi - lo + 1, rfl, by omega, hs1, fun r H2 h0 h1 bt2 hs2 => ⟨lo, r, rfl, rfl, ?_⟩⟩
        exact q (lo + r) H2 (by omega) (.inl (by omega)) (bt1.trans bt2) hs2
def spSign : Sp := fun vs H Q _ => ∃ a c : Addr, vs = [.ref a] ∧ Sto H a c ∧ ∀ z H', Fine 1 z → But a H H' → Sto H' a c → Q (.str z) H'
theorem ok_sign {f : Addr} {fd : FuncData} {k : Nat} (cP : Cal P w K mg base 3 "_law_pick" (spPick K) []) (F : L2.Fun K "_law_sign" "_law_sign" s_sign f fd) : FnOk P w K mg base L2.CX0 (k + 4) f fd ["_law_store_here"] spSign := by
  refine F.ok sc_sign (fun vs H Q E h => ?_) (fun cdv A outer s H vs Q E hr h => ?_)
  · obtain ⟨a, c, rfl, _⟩ := h
    rfl
  · obtain ⟨a, c, rfl, hs, q⟩ := h
    refine ⟨_, pss_cons (ps_set (i := 1) sc_sign.nd rfl (.inl rfl) pe_str)
      (pss_cons (ps_set (i := 1) sc_sign.nd rfl (.inl rfl) (pe_op op_add_str (pv 1) pe_str))
      (pss_one (ps_ret (C8.pe_c cP hr (by omega) rfl (pa_cons (pv 0) (pa_cons (pv 1) pa_nil)))))), ?_⟩
    refine ⟨.str _, rfl, _, _, rfl, rfl, by decide +kernel, ?_⟩
    generalize hz : ((_ : Str) ++ (_ : Str)) = z
    have hf : Fine 200 z := by rw [← hz]; exact fine_of (by decide +kernel)
    have h1 : 1 ≤ z.length := by rw [← hz]; decide +kernel
    refine ⟨.ref a, rfl, .str z, rfl, a, c, .str z, (fun v => ∃ y, v = .str y ∧ Fine 1 y), rfl, hs, .inl ⟨z, rfl, h1, by have := hf.len; omega, fun i d e => ⟨_, rfl, fine_at hf e⟩⟩, fun v H' hv bt hs' => ?_⟩
    obtain ⟨y, rfl, hy⟩ := hv
    exact q y H' hy bt hs'
end
end Kw

set_option maxHeartbeats 4000000
/-! M3: drawn texts, bent texts. Printed by gen_m3.py. -/
namespace Kw
open PySem PySem.Spec PyProof.Rows L2
open C8 (Cal)
theorem sum_fine (n : Nat) : ∀ (ys : List Str), (∀ y ∈ ys, Fine n y) → (ys.map (·.length)).sum ≤ ys.length * n
  | [], _ => by simp
  | y :: r, h => by
    have h1 := (h y (List.mem_cons_self ..)).len
    have ih := sum_fine n r fun z hz => h z (List.mem_cons_of_mem _ hz)
    rw [List.map_cons, List.sum_cons, List.length_cons, Nat.succ_mul]
    omega
theorem empty_len : ("" : Str).length = 0 := by decide +kernel
theorem fine_empty : Fine 0 ("" : Str) := fine_of (by decide +kernel)
section
variable {P : Program} {w : World} {K : PySem.W.Frag} {mg : Str → Option Value} {base : Heap}
def spLtext : Sp := fun vs H Q _ => ∃ (a c : Addr) (m : Int), vs = [.ref a, .int m] ∧ 0 ≤ m ∧ m ≤ 1000 ∧ Sto H a c ∧ ∀ z H', Fine m.toNat z → But a H H' → Sto H' a c → Q (.str z) H'
theorem ok_ltext {f : Addr} {fd : FuncData} {k : Nat} (B : Bl mg) (cT : Cal P w K mg base 2 "_law_take" spTake []) (cO : Cal P w K mg base 3 "_law_once" spOnce []) (cS : Cal P w K mg base 4 "_law_sign" spSign []) (F : L2.Fun K "_law_text" "_law_text" s_ltext f fd) :
    FnOk P w K mg base L2.CX0 (k + 5) f fd ["_law_store_here", "_law_most"] spLtext := by
  refine F.ok sc_ltext (fun vs H Q E h => ?_) (fun cdv A outer s H vs Q E hr h => ?_)
  · obtain ⟨a, c, m, rfl, _⟩ := h
    rfl
  · obtain ⟨a, c, m, rfl, m0, m1, hs, q⟩ := h
    refine ⟨_, pss_cons (ps_set (i := 2) sc_ltext.nd rfl (.inl rfl) (C8.pe_c cT hr (by omega) rfl (pa_cons (pv 0) (pa_cons (pe_op op_add (pv 1) pe_int) pa_nil))))
      (pss_cons (ps_if (pt_val (C8.pe_c cO hr (by omega) rfl (pa_cons (pv 0) (pa_cons pe_int pa_nil)))) (pss_one (ps_set (i := 2) sc_ltext.nd rfl (.inl rfl) (pe_callB (call_min2 rfl) rfl B.min boot_min (pa_cons (pv 1) (pa_cons (C8.pe_c cT hr (by omega) rfl (pa_cons (pv 0) (pa_cons pe_int pa_nil))) pa_nil))))) pss_nil)
      (pss_one (ps_ret (pJoin K pe_str (pe_lc (own := [("_law_k", 3)]) (g := gName 3) (tt := tYes) rfl sc_ltext.nd (pi_range1 rfl B.range (pa_cons (pv 2) pa_nil)) (blkOk_by (N := n_ltext) (sc := defScope s_ltext) (by decide +kernel)) (fun _ _ _ _ _ => pg_name (i := 3) sc_ltext.nd rfl (Or.inl rfl)) (fun _ _ _ _ _ => pts_nil) (fun _ _ _ _ _ => (C8.pe_c cS hr (by omega) rfl (pa_cons (pv 0) pa_nil)))))))), ?_⟩
    refine ⟨.ref a, rfl, .int m, rfl, m, 1, rfl, rfl, a, c, m + 1, rfl, by omega, hs, fun r1 H1 r0 rm bt1 hs1 => ?_⟩
    refine ⟨.ref a, rfl, a, c, 3, rfl, by omega, hs1, fun b H2 bt2 hs2 => ⟨b, rfl, ?_⟩⟩
    have fin : ∀ (r : Int) (H3 : Hp), 0 ≤ r → r ≤ m → But a H H3 → Sto H3 a c → tRet (tM1 (rJoin K) (tC (.str "")) (tLc (iRng1 (tCons (tVar 2) tNil)) (gName 3) tYes (tCall spSign [] C8.E0 (tCons (tVar 0) tNil)) [3])) { nx := fun _ H' => Q .non H', rt := Q } [some (.ref a), some (.int m), some (.int r), none] H3 := by
      intro r H3 h0 h1 bt hs3
      refine ⟨⟨_, rfl⟩, .int r, rfl, r, rfl, by omega, by omega, fun D nD => ?_⟩
      have nDH := bt.free hs3 nD
      obtain ⟨aD, cD⟩ := hs3.ne nD
      refine lc_it walk_range (fun i H4 => But a H H4 ∧ Sto H4 a c ∧ ∃ ys : List Str, H4 D = some (.lst (ys.map V.str)) ∧ ys.length = i ∧ ∀ y ∈ ys, Fine 1 y) ⟨bt.own nDH, hs3.same (same_new nD), [], upd_same, rfl, fun y hy => by cases hy⟩ (fun _ _ _ _ => trivial) ?_ ?_
      · rintro i x H4 H5 hi ⟨bt4, hs4, ys, D4, yl, hy⟩ ⟨rfl, rfl⟩
        refine ⟨rfl, yesT ⟨.ref a, rfl, a, c, rfl, hs4, fun z H6 hz bt6 hs6 => ?_⟩⟩
        have D6 := bt6 _ _ aD.symm D4
        refine ⟨_, D6, ?_, (bt4.trans bt6).own nDH, hs6.own aD cD, ys ++ [z], by rw [upd_same, List.map_append]; rfl, by rw [List.length_append, yl]; rfl, fun y h => ?_⟩
        · rw [List.length_map]; exact line_small' (by omega)
        · rcases List.mem_append.mp h with h | h
          · exact hy y h
          · rw [List.mem_singleton.mp h]; exact hz
      · rintro H4 ⟨bt4, hs4, ys, D4, yl, hy⟩
        have hsum := sum_fine 1 ys hy
        refine ⟨_, D, ys, rfl, rfl, .inl (SqL.of D4), by rw [empty_len]; omega, ?_⟩
        refine q _ H4 ((fine_join fine_empty hy).mono ?_) bt4 hs4
        omega
    cases b with
    | true =>
      refine iteT ⟨.int m, rfl, .ref a, rfl, a, c, 3, rfl, by omega, hs2, fun r2 H3 r20 _ bt3 hs3 => ⟨m, r2, rfl, ?_⟩⟩
      refine fin _ H3 ?_ ?_ ((bt1.trans bt2).trans bt3) hs3
      · split <;> omega
      · split <;> omega
    | false => exact iteF (fin r1 H2 r0 (by omega) (bt1.trans bt2) hs2)
/-! ### _law_benttext -/
def spBent : Sp := fun vs H Q _ => ∃ (a c : Addr) (z m : Str) (n : Nat), vs = [.ref a, .str z, .str m] ∧ Fine n z ∧ n ≤ 10000 ∧ Fine 100 m ∧ 1 ≤ m.length ∧ Sto H a c ∧ ∀ r H', Fine (4 * n + 1) r → But a H H' → Sto H' a c → Q (.str r) H'
theorem ok_bent {f : Addr} {fd : FuncData} {k : Nat} (B : Bl mg) (cT : Cal P w K mg base 2 "_law_take" spTake []) (cP : Cal P w K mg base 3 "_law_pick" (spPick K) []) (cB : Cal P w K mg base 4 "_law_between" spBetween []) (F : L2.Fun K "_law_benttext" "_law_benttext" s_bent f fd) :
    FnOk P w K mg base L2.CX0 (k + 5) f fd ["_law_store_here", "_law_text_here", "_law_menu"] spBent := by
  refine F.ok sc_bent (fun vs H Q E h => ?_) (fun cdv A outer s H vs Q E hr h => ?_)
  · obtain ⟨a, c, z, m, n, rfl, _⟩ := h
    rfl
  · obtain ⟨a, c, z, m, n, rfl, hz, hn, hm, m1, hs, q⟩ := h
    refine ⟨_, pss_cons (ps_set (i := 3) sc_bent.nd rfl (.inl rfl) (C8.pe_c cP hr (by omega) rfl (pa_cons (pv 0) (pa_cons (pv 2) pa_nil))))
      (pss_cons (ps_set (i := 4) sc_bent.nd rfl (.inl rfl) (pe_callB call_len_str (by rfl) B.len boot_len (pa_cons (pv 1) pa_nil)))
      (pss_cons (ps_set (i := 5) sc_bent.nd rfl (.inl rfl) (C8.pe_c cT hr (by omega) rfl (pa_cons (pv 0) (pa_cons pe_int pa_nil))))
      (pss_cons (ps_if (pt_cmpR op_eq (pv 4) pe_int (nomark _)) (pss_one (ps_ret (pv 3))) pss_nil)
      (pss_cons (ps_set (i := 6) sc_bent.nd rfl (.inl rfl) (C8.pe_c cB hr (by omega) rfl (pa_cons (pv 0) (pa_cons pe_int (pa_cons (pe_op op_sub (pv 4) pe_int) pa_nil)))))
      (pss_cons (ps_if (pt_cmpR op_eq (pv 5) pe_int (nomark _)) (pss_cons (ps_set (i := 6) sc_bent.nd rfl (.inl rfl) (C8.pe_c cB hr (by omega) rfl (pa_cons (pv 0) (pa_cons pe_int (pa_cons (pv 4) pa_nil)))))
      (pss_one (ps_ret (pe_op op_add_str (pe_op op_add_str (pe_slice sl_str (pv 1) po_none (po_some (pv 6))) (pv 3)) (pe_slice sl_str (pv 1) (po_some (pv 6)) po_none))))) pss_nil)
      (pss_cons (ps_if (pt_cmpR op_eq (pv 5) pe_int (nomark _)) (pss_one (ps_ret (pe_op op_add_str (pe_slice sl_str (pv 1) po_none (po_some (pv 6))) (pe_slice sl_str (pv 1) (po_some (pe_op op_add (pv 6) pe_int)) po_none)))) pss_nil)
      (pss_cons (ps_if (pt_cmpR op_eq (pv 5) pe_int (nomark _)) (pss_one (ps_ret (pe_op op_add_str (pe_op op_add_str (pe_slice sl_str (pv 1) po_none (po_some (pv 6))) (pv 3)) (pe_slice sl_str (pv 1) (po_some (pe_op op_add (pv 6) pe_int)) po_none)))) pss_nil)
      (pss_one (ps_ret (pe_op op_add_str (pe_op op_add_str (pe_op op_add_str (pe_slice sl_str (pv 1) po_none (po_some (pv 6))) (pe_slice sl_str (pv 1) (po_some (pe_op op_add (pv 6) pe_int)) (po_some (pe_op op_add (pv 6) pe_int)))) (pe_slice sl_str (pv 1) (po_some (pv 6)) (po_some (pe_op op_add (pv 6) pe_int)))) (pe_slice sl_str (pv 1) (po_some (pe_op op_add (pv 6) pe_int)) po_none))))))))))), ?_⟩
    have zl := hz.len
    have zz : z.length ≤ sizeLine := Nat.le_trans zl (Nat.le_trans hn (by decide))
    have cut : ∀ (lo hi : Option Int), Fine n (cutS z lo hi) := fun lo hi => fine_cut hz
    have cl : ∀ (lo hi : Option Int), (cutS z lo hi).length ≤ 10000 := fun lo hi => Nat.le_trans (cut lo hi).len hn
    have sm : ∀ {x : Nat}, x ≤ 100000 → x ≤ sizeLine := fun h => Nat.le_trans h (by decide)
    refine ⟨.ref a, rfl, .str m, rfl, a, c, .str m, (fun v => ∃ y, v = .str y ∧ Fine 1 y), rfl, hs, .inl ⟨m, rfl, m1, by have := hm.len; omega, fun i d e => ⟨_, rfl, fine_at hm e⟩⟩, fun v H1 hv bt1 hs1 => ?_⟩
    obtain ⟨y, rfl, hy⟩ := hv
    have yl := hy.len
    refine ⟨.str z, rfl, z, rfl, zz, ?_⟩
    refine ⟨.ref a, rfl, a, c, 4, rfl, by omega, hs1, fun kd H2 k0 k1 bt2 hs2 => ?_⟩
    have bt12 := bt1.trans bt2
    refine ⟨.int z.length, rfl, rfl, _, rfl, ?_⟩
    by_cases c0 : V.int (z.length : Nat) = V.int 0
    · rw [decide_eq_true c0]
      exact iteT ⟨.str y, rfl, q y H2 (hy.mono (by omega)) bt12 hs2⟩
    rw [decide_eq_false c0]
    refine iteF ⟨.ref a, rfl, .int z.length, rfl, z.length, 1, rfl, rfl, a, c, 0, _, rfl, by omega, hs2, fun at1 H3 a0 a1 bt3 hs3 => ?_⟩
    have bt123 := bt12.trans bt3
    refine ⟨.int kd, rfl, rfl, _, rfl, ?_⟩
    by_cases k0 : V.int kd = V.int 0
    · rw [decide_eq_true k0]
      refine iteT ⟨.ref a, rfl, .int z.length, rfl, a, c, 0, _, rfl, by omega, hs3, fun at2 H4 a0 a1 bt4 hs4 => ?_⟩
      refine ⟨.str z, rfl, .int at2, rfl, at2, rfl, z, rfl, zz, .str y, rfl, _, _, rfl, rfl, sm (by have := cl none (some at2); omega), ?_⟩
      refine ⟨.str z, rfl, .int at2, rfl, at2, rfl, z, rfl, zz, _, _, rfl, rfl, ?_, ?_⟩
      · have f1 := fine_cat (cut none (some at2)) hy
        have := f1.len
        have := cl (some at2) none
        exact sm (by omega)
      · exact q _ H4 ((fine_cat (fine_cat (cut none (some at2)) hy) (cut (some at2) none)).mono (by omega)) (bt123.trans bt4) hs4
    rw [decide_eq_false k0]
    refine iteF ⟨.int kd, rfl, rfl, _, rfl, ?_⟩
    by_cases k1 : V.int kd = V.int 1
    · rw [decide_eq_true k1]
      refine iteT ⟨.str z, rfl, .int at1, rfl, at1, rfl, z, rfl, zz, .str z, rfl, .int at1, rfl, at1, 1, rfl, rfl, at1 + 1, rfl, z, rfl, zz, _, _, rfl, rfl, ?_, ?_⟩
      · have := cl none (some at1)
        have := cl (some (at1 + 1)) none
        exact sm (by omega)
      · exact q _ H3 ((fine_cat (cut none (some at1)) (cut (some (at1 + 1)) none)).mono (by omega)) bt123 hs3
    rw [decide_eq_false k1]
    refine iteF ⟨.int kd, rfl, rfl, _, rfl, ?_⟩
    by_cases k2 : V.int kd = V.int 2
    · rw [decide_eq_true k2]
      refine iteT ⟨.str z, rfl, .int at1, rfl, at1, rfl, z, rfl, zz, .str y, rfl, _, _, rfl, rfl, sm (by have := cl none (some at1); omega), ?_⟩
      refine ⟨.str z, rfl, .int at1, rfl, at1, 1, rfl, rfl, at1 + 1, rfl, z, rfl, zz, _, _, rfl, rfl, ?_, ?_⟩
      · have := (fine_cat (cut none (some at1)) hy).len
        have := cl (some (at1 + 1)) none
        exact sm (by omega)
      · exact q _ H3 ((fine_cat (fine_cat (cut none (some at1)) hy) (cut (some (at1 + 1)) none)).mono (by omega)) bt123 hs3
    rw [decide_eq_false k2]
    refine iteF ?_
    have f1 := fine_cat (cut none (some at1)) (cut (some (at1 + 1)) (some (at1 + 2)))
    have f2 := fine_cat f1 (cut (some at1) (some (at1 + 1)))
    have f3 := fine_cat f2 (cut (some (at1 + 2)) none)
    have l1 := f1.len
    have l2 := f2.len
    have l3 := f3.len
    refine ⟨.str z, rfl, .int at1, rfl, at1, rfl, z, rfl, zz, .str z, rfl, .int at1, rfl, at1, 1, rfl, rfl, at1 + 1, rfl, .int at1, rfl, at1, 2, rfl, rfl, at1 + 2, rfl, z, rfl, zz, _, _, rfl, rfl, ?_, ?_⟩
    · have := cl none (some at1)
      have := cl (some (at1 + 1)) (some (at1 + 2))
      exact sm (by omega)
    refine ⟨.str z, rfl, .int at1, rfl, at1, rfl, .int at1, rfl, at1, 1, rfl, rfl, at1 + 1, rfl, z, rfl, zz, _, _, rfl, rfl, ?_, ?_⟩
    · have := cl (some at1) (some (at1 + 1))
      exact sm (by omega)
    refine ⟨.str z, rfl, .int at1, rfl, at1, 2, rfl, rfl, at1 + 2, rfl, z, rfl, zz, _, _, rfl, rfl, ?_, ?_⟩
    · have := cl (some (at1 + 2)) none
      exact sm (by omega)
    exact q _ H3 (f3.mono (by omega)) bt123 hs3
end
end Kw

set_option maxHeartbeats 4000000
/-! M4: the law's own names of a parting, drawn. Printed by gen_m4.py. -/
namespace Kw
open PySem PySem.Spec PyProof.Rows L2
open C8 (Cal)
theorem nm_range (n : Nat) : Nm (List.range n) := by
  unfold Nm canon
  rw [List.map_map]
  have h : List.map ((fun x => fix x (zs (List.range n))) ∘ fun k : Nat => (k : Int)) (List.range n) = List.map id (List.range n) := by
    refine List.map_congr_left fun k hk => ?_
    have hk' := List.mem_range.mp hk
    show fix ((k : Nat) : Int) (zs (List.range n)) = k
    refine fix_is (zs_get (List.getElem?_range hk')) fun j hj q => ?_
    have q2 := of_zs q
    rw [List.getElem?_range (by omega)] at q2
    have := Option.some.inj q2
    omega
  rw [h, List.map_id]
theorem rgV0 (n : Nat) : rgV 0 (n : Int) = (List.range n).map nv := by
  unfold rgV
  rw [show ((n : Int) - 0).toNat = n by omega]
  refine List.map_congr_left fun k _ => ?_
  rw [show (0 : Int) + (k : Nat) = (k : Int) by omega]
theorem r0 {x : V} {i : Nat} (h : x = V.int (0 + (i : Nat))) : x = V.int (i : Int) := by
  rw [h, show (0 : Int) + (i : Nat) = (i : Int) by omega]
/-- one more int in the list at D -/
theorem put_int {H H4 : Hp} {a c D : Addr} {ls : List Int} {i : Nat} (z : Int) (nD : H D = none) (aD : a ≠ D) (cD : c ≠ D) (hi : i < 1000) (bt : But a H H4) (hs : Sto H4 a c) (D4 : H4 D = some (.lst (ls.map V.int))) (hl : ls.length = i) :
    ∃ acc, H4 D = some (.lst acc) ∧ acc.length < sizeLine ∧ (But a H (upd H4 D (.lst (acc ++ [.int z]))) ∧ Sto (upd H4 D (.lst (acc ++ [.int z]))) a c ∧ ∃ ls : List Int, (upd H4 D (.lst (acc ++ [.int z]))) D = some (.lst (ls.map V.int)) ∧ ls.length = i + 1) := by
  refine ⟨_, D4, by rw [List.length_map]; exact line_small' (by omega), bt.own nD, hs.own aD cD, ls ++ [z], by rw [upd_same, List.map_append]; rfl, by rw [List.length_append, hl]; rfl⟩
section
variable {P : Program} {w : World} {K : PySem.W.Frag} {mg : Str → Option Value} {base : Heap}
def spCanon (K : PySem.W.Frag) : Sp := fun vs H Q _ => ∃ (a : Addr) (ls : List Int), vs = [.ref a] ∧ SqL K H a (ls.map V.int) ∧ ls.length ≤ 100 ∧ ∀ H' t, Same H H' → H t = none → H' t = some (.tup ((canon ls).map nv)) → Q (.ref t) H'
theorem ok_canon {f : Addr} {fd : FuncData} {k : Nat} (B : Bl mg) (F : L2.Fun K "_law_canon" "_law_canon" s_canon f fd) : FnOk P w K mg base L2.CX0 (k + 1) f fd ["_law_labels"] (spCanon K) := by
  refine F.ok sc_canon (fun vs H Q E h => ?_) (fun cdv A outer s H vs Q E hr h => ?_)
  · obtain ⟨a, ls, rfl, _⟩ := h
    rfl
  · obtain ⟨a, ls, rfl, hS, hl, q⟩ := h
    refine ⟨_, pss_cons (ps_set (i := 1) sc_canon.nd rfl (.inl rfl) (pe_lst pa_nil))
      (pss_cons (ps_for PassesOwn.never rfl (pi_range1 rfl B.range (pa_cons (pe_callB call_len_seq (by rfl) B.len boot_len (pa_cons (pv 0) pa_nil)) pa_nil)) (pg_name (i := 2) sc_canon.nd rfl (.inl rfl)) (pss_cons (ps_set (i := 3) sc_canon.nd rfl (.inl rfl) (pv 2))
      (pss_cons (ps_for PassesOwn.never rfl (pi_range1 rfl B.range (pa_cons (pv 2) pa_nil)) (pg_name (i := 4) sc_canon.nd rfl (.inl rfl)) (pss_one (ps_if (pt_cmpR op_eq (pe_ix ix_list (pv 0) (pv 4) fun _ _ => rfl) (pe_ix ix_list (pv 0) (pv 2) fun _ _ => rfl) (nomark _)) (pss_cons (ps_set (i := 3) sc_canon.nd rfl (.inl rfl) (pv 4))
      (pss_one (ps_break))) pss_nil)))
      (pss_one (ps_expr (pe_bm PySem.F.plainAttrs_list PySem.F.slot_list_append PySem.F.type_list_append mt_append (pv 1) (pa_cons (pv 3) pa_nil)))))))
      (pss_one (ps_ret (pe_callTy call_tuple_of rfl B.tuple boot_ty_tuple (pa_cons (pv 1) pa_nil))))), ?_⟩
    refine ⟨by decide, fun L nL => ?_⟩
    refine ⟨.ref a, rfl, a, _, rfl, .inl (Same.seq (same_new nL) hS), _, rfl, by rw [List.length_map]; omega, by rw [List.length_map]; omega, ?_⟩
    rw [List.length_map, show (((ls.length : Nat) : Int)).toNat = ls.length by omega]
    refine for_it walk_range (fun i σ H3 => ∃ y2 y3 y4, σ = [some (.ref a), some (.ref L), y2, y3, y4] ∧ Same H H3 ∧ H3 L = some (.lst (((canon ls).take i).map nv))) ⟨none, none, none, rfl, same_new nL, upd_same⟩ (fun _ _ _ _ _ => trivial) ?_ ?_
    · rintro i x σ H3 H4 hi ⟨y2, y3, y4, rfl, s3, L3⟩ ⟨rfl, ex⟩
      obtain rfl := r0 ex
      have hx : ls[i]? = some ls[i] := List.getElem?_eq_getElem hi
      generalize hx0 : ls[i] = z at hx
      have hS3 : SqL K H4 a (ls.map V.int) := Same.seq s3 hS
      refine ⟨.int i, rfl, .int i, rfl, i, rfl, by omega, by omega, ?_⟩
      rw [show ((i : Nat) : Int).toNat = i by omega]
      have app : ∀ (v : Nat), v = fix z ls → ∃ acc, H4 L = some (.lst acc) ∧ acc.length < sizeLine ∧ Same H (upd H4 L (.lst (acc ++ [nv v]))) ∧ (upd H4 L (.lst (acc ++ [nv v]))) L = some (.lst (((canon ls).take (i + 1)).map nv)) := fun v hv => by
        refine ⟨_, L3, ?_, s3.own nL, ?_⟩
        · rw [List.length_map, List.length_take]; exact line_small' (by have := canon_len ls; omega)
        · rw [upd_same, take_split'' (canon_get hx), List.map_append, hv]; rfl
      refine for_it walk_range (fun j σ H5 => ∃ y4, σ = [some (.ref a), some (.ref L), some (.int i), some (.int i), y4] ∧ H5 = H4 ∧ j ≤ i ∧ ∀ j', j' < j → ls[j']? ≠ some z) ⟨y4, rfl, rfl, Nat.zero_le _, fun j' h => absurd h (Nat.not_lt_zero _)⟩ (fun _ _ _ _ _ => trivial) ?_ ?_
      · rintro j x σ H5 H6 hj ⟨y4, rfl, rfl, hji, hno⟩ ⟨rfl, ex2⟩
        obtain rfl := r0 ex2
        have hjl : j < ls.length := by omega
        have hy : ls[j]? = some ls[j] := List.getElem?_eq_getElem hjl
        refine ⟨.ref a, rfl, .int j, rfl, a, _, j, .int ls[j], rfl, rfl, hS3, atI_nat (by rw [List.getElem?_map, hy]; rfl), .ref a, rfl, .int i, rfl, a, _, i, .int z, rfl, rfl, hS3, atI_nat (by rw [List.getElem?_map, hx]; rfl), rfl, _, rfl, ?_⟩
        by_cases ce : ls[j] = z
        · rw [decide_eq_true (by rw [ce])]
          have hf : j = fix z ls := (fix_is (by rw [hy, ce]) hno).symm
          obtain ⟨acc, h1, h2, h3, h4⟩ := app j hf
          exact iteT ⟨.int j, rfl, .ref L, rfl, .inl ⟨rfl, _, SqL.of L3⟩, .int j, rfl, L, acc, _, rfl, rfl, h1, h2, some (.int i), some (.int j), some (.int j), rfl, h3, h4⟩
        · rw [decide_eq_false fun e => ce (V.int.inj e)]
          refine iteF ⟨some (.int j), rfl, rfl, by omega, fun j' h => ?_⟩
          rcases Nat.lt_or_ge j' j with c | c
          · exact hno j' c
          · rw [show j' = j by omega, hy]
            exact fun e => ce (Option.some.inj e)
      · rintro σ H5 ⟨y4, rfl, rfl, _, hno⟩
        have hf : i = fix z ls := (fix_is hx hno).symm
        obtain ⟨acc, h1, h2, h3, h4⟩ := app i hf
        exact ⟨.ref L, rfl, .inl ⟨rfl, _, SqL.of L3⟩, .int i, rfl, L, acc, _, rfl, rfl, h1, h2, some (.int i), some (.int i), y4, rfl, h3, h4⟩
    · rintro σ H3 ⟨y2, y3, y4, rfl, s3, L3⟩
      rw [List.take_of_length_le (by rw [canon_len]; exact Nat.le_refl _)] at L3
      exact ⟨.ref L, rfl, L, _, rfl, .inl ⟨SqL.of L3, fun t nt => q _ t (s3.new nt) (s3.free nt) upd_same⟩⟩
/-! ### _law_parting -/
def spLpart : Sp := fun vs H Q _ => ∃ (a c : Addr) (n : Nat), vs = [.ref a, nv n] ∧ 1 ≤ n ∧ n ≤ 20 ∧ Sto H a c ∧ ∀ H' t ns, But a H H' → Sto H' a c → H t = none → H' t = some (.tup (ns.map nv)) → Nm ns → ns.length = n → Q (.ref t) H'
theorem ok_lparting {f : Addr} {fd : FuncData} {k : Nat} (B : Bl mg) (cT : Cal P w K mg base 2 "_law_take" spTake []) (cC : Cal P w K mg base 1 "_law_canon" (spCanon K) []) (F : L2.Fun K "_law_parting" "_law_parting" s_lparting f fd) :
    FnOk P w K mg base L2.CX0 (k + 3) f fd ["_law_store_here", "_law_plots"] spLpart := by
  refine F.ok sc_lparting (fun vs H Q E h => ?_) (fun cdv A outer s H vs Q E hr h => ?_)
  · obtain ⟨a, c, n, rfl, _⟩ := h
    rfl
  · obtain ⟨a, c, n, rfl, n1, n20, hs, q⟩ := h
    refine ⟨_, pss_cons (ps_set (i := 2) sc_lparting.nd rfl (.inl rfl) (C8.pe_c cT hr (by omega) rfl (pa_cons (pv 0) (pa_cons pe_int pa_nil))))
      (pss_cons (ps_set (i := 3) sc_lparting.nd rfl (Or.inr rfl) (pe_op op_add pe_int (C8.pe_c cT hr (by omega) rfl (pa_cons (pv 0) (pa_cons (pv 1) pa_nil)))))
      (pss_cons (ps_if (pt_cmpR op_eq (pv 2) pe_int (nomark _)) (pss_one (ps_ret (C8.pe_c cC hr (by omega) rfl (pa_cons (pe_lc (own := [("_law_k", 4)]) (g := gName 4) (tt := tYes) rfl sc_lparting.nd (pi_range1 rfl B.range (pa_cons (pv 1) pa_nil)) (blkOk_by (N := n_lparting) (sc := defScope s_lparting) (by decide +kernel)) (fun _ _ _ _ _ => pg_name (i := 4) sc_lparting.nd rfl (Or.inl rfl)) (fun _ _ _ _ _ => pts_nil) (fun _ _ _ _ _ => pe_int)) pa_nil)))) pss_nil)
      (pss_cons (ps_if (pt_cmpR op_eq (pv 2) pe_int (nomark _)) (pss_one (ps_ret (pe_tupRg rfl rfl B.tuple (prg_1 rfl B.range (pv 1))))) pss_nil)
      (pss_cons (ps_if (pt_cmpR op_eq (pv 2) pe_int (nomark _)) (pss_one (ps_ret (C8.pe_c cC hr (by omega) rfl (pa_cons (pe_lc (own := [("_law_k", 4)]) (g := gName 4) (tt := tYes) rfl sc_lparting.nd (pi_range1 rfl B.range (pa_cons (pv 1) pa_nil)) (blkOk_by (N := n_lparting) (sc := defScope s_lparting) (by decide +kernel)) (fun _ _ _ _ _ => pg_name (i := 4) sc_lparting.nd rfl (Or.inl rfl)) (fun _ _ _ _ _ => pts_nil) (fun _ _ _ _ _ => (pe_op op_fdiv (pv 4) (pv 3)))) pa_nil)))) pss_nil)
      (pss_cons (ps_if (pt_cmpR op_eq (pv 2) pe_int (nomark _)) (pss_one (ps_ret (C8.pe_c cC hr (by omega) rfl (pa_cons (pe_lc (own := [("_law_k", 4)]) (g := gName 4) (tt := tYes) rfl sc_lparting.nd (pi_range1 rfl B.range (pa_cons (pv 1) pa_nil)) (blkOk_by (N := n_lparting) (sc := defScope s_lparting) (by decide +kernel)) (fun _ _ _ _ _ => pg_name (i := 4) sc_lparting.nd rfl (Or.inl rfl)) (fun _ _ _ _ _ => pts_nil) (fun _ _ _ _ _ => (pe_op op_mod (pe_callTy call_int1 rfl B.int boot_ty_int (pa_cons (pv 4) pa_nil)) (pv 3)))) pa_nil)))) pss_nil)
      (pss_cons (ps_if (pt_cmpR op_eq (pv 2) pe_int (nomark _)) (pss_one (ps_ret (C8.pe_c cC hr (by omega) rfl (pa_cons (pe_lc (own := [("_law_k", 4)]) (g := gName 4) (tt := tYes) rfl sc_lparting.nd (pi_range1 rfl B.range (pa_cons (pv 1) pa_nil)) (blkOk_by (N := n_lparting) (sc := defScope s_lparting) (by decide +kernel)) (fun _ _ _ _ _ => pg_name (i := 4) sc_lparting.nd rfl (Or.inl rfl)) (fun _ _ _ _ _ => pts_nil) (fun _ _ _ _ _ => (pe_callTy call_int1 rfl B.int boot_ty_int (pa_cons (pe_cmpR op_eq (pv 4) (pe_op op_sub (pv 3) pe_int) (nomark _)) pa_nil)))) pa_nil)))) pss_nil)
      (pss_cons (ps_if (pt_cmpR op_eq (pv 2) pe_int (nomark _)) (pss_one (ps_set (i := 3) sc_lparting.nd rfl (Or.inr rfl) (pe_callB (call_min2 rfl) rfl B.min boot_min (pa_cons (pv 1) (pa_cons pe_int pa_nil))))) pss_nil)
      (pss_one (ps_ret (C8.pe_c cC hr (by omega) rfl (pa_cons (pe_lc (own := [("_law_k", 4)]) (g := gName 4) (tt := tYes) rfl sc_lparting.nd (pi_range1 rfl B.range (pa_cons (pv 1) pa_nil)) (blkOk_by (N := n_lparting) (sc := defScope s_lparting) (by decide +kernel)) (fun _ _ _ _ _ => pg_name (i := 4) sc_lparting.nd rfl (Or.inl rfl)) (fun _ _ _ _ _ => pts_nil) (fun _ _ _ _ _ => (C8.pe_c cT hr (by omega) rfl (pa_cons (pv 0) (pa_cons (pv 3) pa_nil))))) pa_nil))))))))))), ?_⟩
    -- kind, size
    refine ⟨.ref a, rfl, a, c, 8, rfl, by omega, hs, fun kd H1 k0 k1 bt1 hs1 => ?_⟩
    refine ⟨.ref a, rfl, nv n, rfl, a, c, n, rfl, by omega, hs1, fun sz H2 s0 s1 bt2 hs2 => ?_⟩
    refine ⟨1, sz, rfl, rfl, ?_⟩
    have bt := bt1.trans bt2
    have szb : 1 ≤ 1 + sz ∧ 1 + sz ≤ 20 := by omega
    have en : ((n : Nat) : Int).toNat = n := by omega
    have fin : ∀ (D : Addr) (H4 : Hp), H D = none → (But a H H4 ∧ Sto H4 a c ∧ ∃ ls : List Int, H4 D = some (.lst (ls.map V.int)) ∧ ls.length = n) → ∃ (a : Addr) (ls : List Int), [V.ref D] = [.ref a] ∧ SqL K H4 a (ls.map V.int) ∧ ls.length ≤ 100 ∧ ∀ H' t, Same H4 H' → H4 t = none → H' t = some (.tup ((canon ls).map nv)) → Q (.ref t) H' :=
      fun D H4 nD ⟨bt4, hs4, ls, D4, hl⟩ => ⟨D, ls, rfl, SqL.of D4, by omega, fun H' t s nt e => q H' t (canon ls) (bt4.trans s.but) (hs4.same s) (bt4.free hs4 nt) e (nm_canon ls) (by rw [canon_len, hl])⟩
    refine ⟨.int kd, rfl, rfl, _, rfl, ?_⟩
    by_cases q0 : V.int kd = V.int 0
    · rw [decide_eq_true q0]
      refine iteT ?_
      refine ⟨nv n, rfl, n, rfl, by omega, by omega, fun D nD => ?_⟩
      have nDH := bt.free hs2 nD
      obtain ⟨aD, cD⟩ := hs2.ne nD
      rw [en]
      refine lc_it walk_range (fun i H4 => But a H H4 ∧ Sto H4 a c ∧ ∃ ls : List Int, H4 D = some (.lst (ls.map V.int)) ∧ ls.length = i) ⟨bt.own nDH, hs2.same (same_new nD), [], upd_same, rfl⟩ (fun _ _ _ _ => trivial) ?_ (fun H4 h => fin D H4 nDH h)
      rintro i x H4 H5 hi ⟨bt4, hs4, ls, D4, hl⟩ ⟨rfl, rfl⟩
      exact ⟨rfl, yesT (put_int _ nDH aD cD (by omega) bt4 hs4 D4 hl)⟩
    rw [decide_eq_false q0]
    refine iteF ?_
    refine ⟨.int kd, rfl, rfl, _, rfl, ?_⟩
    by_cases q1 : V.int kd = V.int 1
    · rw [decide_eq_true q1]
      refine iteT ⟨nv n, rfl, n, rfl, RgOk.of_le (by omega) (by omega) (by omega) (by omega), fun t nt => ?_⟩
      have ntH := bt.free hs2 nt
      refine q _ t (List.range n) (bt.own ntH) (hs2.same (same_new nt)) ntH ?_ (nm_range n) (List.length_range ..)
      rw [upd_same, rgV0]
    rw [decide_eq_false q1]
    refine iteF ?_
    refine ⟨.int kd, rfl, rfl, _, rfl, ?_⟩
    by_cases q2 : V.int kd = V.int 2
    · rw [decide_eq_true q2]
      refine iteT ?_
      refine ⟨nv n, rfl, n, rfl, by omega, by omega, fun D nD => ?_⟩
      have nDH := bt.free hs2 nD
      obtain ⟨aD, cD⟩ := hs2.ne nD
      rw [en]
      refine lc_it walk_range (fun i H4 => But a H H4 ∧ Sto H4 a c ∧ ∃ ls : List Int, H4 D = some (.lst (ls.map V.int)) ∧ ls.length = i) ⟨bt.own nDH, hs2.same (same_new nD), [], upd_same, rfl⟩ (fun _ _ _ _ => trivial) ?_ (fun H4 h => fin D H4 nDH h)
      rintro i x H4 H5 hi ⟨bt4, hs4, ls, D4, hl⟩ ⟨rfl, rfl⟩
      exact ⟨rfl, yesT ⟨.int (0 + (i : Nat)), rfl, .int (1 + sz), rfl, _, _, rfl, rfl, ⟨by omega, by omega⟩, put_int _ nDH aD cD (by omega) bt4 hs4 D4 hl⟩⟩
    rw [decide_eq_false q2]
    refine iteF ?_
    refine ⟨.int kd, rfl, rfl, _, rfl, ?_⟩
    by_cases q3 : V.int kd = V.int 3
    · rw [decide_eq_true q3]
      refine iteT ?_
      refine ⟨nv n, rfl, n, rfl, by omega, by omega, fun D nD => ?_⟩
      have nDH := bt.free hs2 nD
      obtain ⟨aD, cD⟩ := hs2.ne nD
      rw [en]
      refine lc_it walk_range (fun i H4 => But a H H4 ∧ Sto H4 a c ∧ ∃ ls : List Int, H4 D = some (.lst (ls.map V.int)) ∧ ls.length = i) ⟨bt.own nDH, hs2.same (same_new nD), [], upd_same, rfl⟩ (fun _ _ _ _ => trivial) ?_ (fun H4 h => fin D H4 nDH h)
      rintro i x H4 H5 hi ⟨bt4, hs4, ls, D4, hl⟩ ⟨rfl, rfl⟩
      exact ⟨rfl, yesT ⟨.int (0 + (i : Nat)), rfl, .inl ⟨_, rfl, .int (1 + sz), rfl, _, _, rfl, rfl, (show 0 < 1 + sz by omega), put_int _ nDH aD cD (by omega) bt4 hs4 D4 hl⟩⟩⟩
    rw [decide_eq_false q3]
    refine iteF ?_
    refine ⟨.int kd, rfl, rfl, _, rfl, ?_⟩
    by_cases q4 : V.int kd = V.int 4
    · rw [decide_eq_true q4]
      refine iteT ?_
      refine ⟨nv n, rfl, n, rfl, by omega, by omega, fun D nD => ?_⟩
      have nDH := bt.free hs2 nD
      obtain ⟨aD, cD⟩ := hs2.ne nD
      rw [en]
      refine lc_it walk_range (fun i H4 => But a H H4 ∧ Sto H4 a c ∧ ∃ ls : List Int, H4 D = some (.lst (ls.map V.int)) ∧ ls.length = i) ⟨bt.own nDH, hs2.same (same_new nD), [], upd_same, rfl⟩ (fun _ _ _ _ => trivial) ?_ (fun H4 h => fin D H4 nDH h)
      rintro i x H4 H5 hi ⟨bt4, hs4, ls, D4, hl⟩ ⟨rfl, rfl⟩
      exact ⟨rfl, yesT ⟨.int (0 + (i : Nat)), rfl, .int (1 + sz), rfl, _, 1, rfl, rfl, rfl, .inr ⟨_, rfl, put_int _ nDH aD cD (by omega) bt4 hs4 D4 hl⟩⟩⟩
    rw [decide_eq_false q4]
    refine iteF ?_
    refine ⟨.int kd, rfl, rfl, _, rfl, ?_⟩
    by_cases q5 : V.int kd = V.int 5
    · rw [decide_eq_true q5]
      refine iteT ⟨nv n, rfl, n, 2, rfl, ?_⟩
      have sb : (if (2 : Int) < (n : Int) then (2 : Int) else (n : Int)) ≤ 20 := by split <;> omega
      generalize (if (2 : Int) < (n : Int) then (2 : Int) else (n : Int)) = s2 at sb ⊢
      refine ⟨nv n, rfl, n, rfl, by omega, by omega, fun D nD => ?_⟩
      have nDH := bt.free hs2 nD
      obtain ⟨aD, cD⟩ := hs2.ne nD
      rw [en]
      refine lc_it walk_range (fun i H4 => But a H H4 ∧ Sto H4 a c ∧ ∃ ls : List Int, H4 D = some (.lst (ls.map V.int)) ∧ ls.length = i) ⟨bt.own nDH, hs2.same (same_new nD), [], upd_same, rfl⟩ (fun _ _ _ _ => trivial) ?_ (fun H4 h => fin D H4 nDH h)
      rintro i x H4 H5 hi ⟨bt4, hs4, ls, D4, hl⟩ ⟨rfl, rfl⟩
      exact ⟨rfl, yesT ⟨.ref a, rfl, .int s2, rfl, a, c, s2, rfl, by omega, hs4, fun r H6 r0 r1 bt6 hs6 => put_int r nDH aD cD (by omega) (bt4.trans bt6) hs6 (bt6 _ _ aD.symm D4) hl⟩⟩
    rw [decide_eq_false q5]
    refine iteF ?_
    refine ⟨nv n, rfl, n, rfl, by omega, by omega, fun D nD => ?_⟩
    have nDH := bt.free hs2 nD
    obtain ⟨aD, cD⟩ := hs2.ne nD
    rw [en]
    refine lc_it walk_range (fun i H4 => But a H H4 ∧ Sto H4 a c ∧ ∃ ls : List Int, H4 D = some (.lst (ls.map V.int)) ∧ ls.length = i) ⟨bt.own nDH, hs2.same (same_new nD), [], upd_same, rfl⟩ (fun _ _ _ _ => trivial) ?_ (fun H4 h => fin D H4 nDH h)
    rintro i x H4 H5 hi ⟨bt4, hs4, ls, D4, hl⟩ ⟨rfl, rfl⟩
    exact ⟨rfl, yesT ⟨.ref a, rfl, .int (1 + sz), rfl, a, c, (1 + sz), rfl, by omega, hs4, fun r H6 r0 r1 bt6 hs6 => put_int r nDH aD cD (by omega) (bt4.trans bt6) hs6 (bt6 _ _ aD.symm D4) hl⟩⟩
end
end Kw

set_option maxHeartbeats 4000000
/-! M5: the law's own lots and written form. Printed by gen_m5.py. -/
namespace Kw
open PySem PySem.Spec PyProof.Rows L2
open C8 (Cal)
open TL (numL numL_len)
theorem ix_B {K : PySem.W.Frag} {b : Bool} {H : Hp} {p : Addr} {xs : List V} {i : Nat} {v : V} {Q : VK} (h : SqB K b H p xs) (e : xs[i]? = some v) (q : Q v H) : rIx K (.ref p) (.int (i : Nat)) H Q := by
  cases b with
  | false => exact .inl ⟨p, xs, i, v, rfl, rfl, h, atI_nat e, q⟩
  | true => exact .inr (.inl ⟨p, xs, i, v, rfl, rfl, h, atI_nat e, q⟩)
theorem ixQ {X : Cx} (K : PySem.W.Frag) (h : X.K = K := by rfl) : IxR X (rIx K) := by subst h; exact ix_seq
/-- the lots with a name below i -/
def lotsJ (ns : List Nat) (i : Nat) : List (List Nat) := ((List.range i).filter fun m => decide (ns[m]? = some m)).map (row ns ns.length)
theorem lotsJ_all (ns : List Nat) : lotsJ ns ns.length = lots ns := rfl
theorem lotsJ_hit {ns : List Nat} {i : Nat} (h : ns[i]? = some i) : lotsJ ns (i + 1) = lotsJ ns i ++ [row ns ns.length i] := by
  unfold lotsJ
  rw [List.range_succ, List.filter_append, List.map_append]
  simp [h]
theorem lotsJ_miss {ns : List Nat} {i : Nat} (h : ¬ ns[i]? = some i) : lotsJ ns (i + 1) = lotsJ ns i := by
  unfold lotsJ
  rw [List.range_succ, List.filter_append, List.map_append]
  simp [h]
theorem lotsJ_len (ns : List Nat) (i : Nat) : (lotsJ ns i).length ≤ i := by
  unfold lotsJ
  rw [List.length_map]
  exact Nat.le_trans (List.length_filter_le _ _) (by rw [List.length_range]; exact Nat.le_refl _)
theorem nv_inj {j k : Nat} : (V.int (j : Int) = V.int (k : Int)) ↔ j = k := by
  constructor
  · intro e; have := V.int.inj e; omega
  · rintro rfl; rfl
section
variable {P : Program} {w : World} {K : PySem.W.Frag} {mg : Str → Option Value} {base : Heap}
def spLlots (K : PySem.W.Frag) : Sp := fun vs H Q _ => ∃ (b : Bool) (a : Addr) (ns : List Nat), vs = [.ref a] ∧ SqB K b H a (ns.map nv) ∧ ns.length ≤ 20 ∧ ∀ H' t, Same H H' → H t = none → LotsAt H' t (lots ns) → Q (.ref t) H'
theorem ok_llots {f : Addr} {fd : FuncData} {k : Nat} (B : Bl mg) (F : L2.Fun K "_law_lots" "_law_lots" s_llots f fd) : FnOk P w K mg base L2.CX0 (k + 1) f fd ["_law_names"] (spLlots K) := by
  refine F.ok sc_llots (fun vs H Q E h => ?_) (fun cdv A outer s H vs Q E hr h => ?_)
  · obtain ⟨b, a, ns, rfl, _⟩ := h
    rfl
  · obtain ⟨b, a, ns, rfl, hS, hl, q⟩ := h
    refine ⟨_, pss_cons (ps_set (i := 1) sc_llots.nd rfl (.inl rfl) (pe_lst pa_nil))
      (pss_cons (ps_for PassesOwn.never rfl (pi_range1 rfl B.range (pa_cons (pe_callB call_len_seq (by rfl) B.len boot_len (pa_cons (pv 0) pa_nil)) pa_nil)) (pg_name (i := 2) sc_llots.nd rfl (Or.inr rfl)) (pss_one (ps_if (pt_cmpR op_eq (pe_ix ix_seq (pv 0) (pv 2) fun _ _ => rfl) (pv 2) (nomark _)) (pss_one (ps_expr (pe_bm PySem.F.plainAttrs_list PySem.F.slot_list_append PySem.F.type_list_append mt_append (pv 1) (pa_cons (pe_callTy call_tuple_of rfl B.tuple boot_ty_tuple (pa_cons (pe_lc (own := [("_law_k", 3)]) (g := gName 3) rfl sc_llots.nd (pi_range1 rfl B.range (pa_cons (pe_callB (cLen K) (by rfl) B.len boot_len (pa_cons (pv 0) pa_nil)) pa_nil)) (blkOk_by (N := n_llots) (sc := defScope s_llots) (by decide +kernel)) (fun _ _ _ _ _ => pg_name (i := 3) sc_llots.nd rfl (Or.inl rfl)) (fun _ _ _ _ _ => pts_one (pt_cmpR op_eq (pe_ix (ixQ K) (pv 0) (pv 3) fun _ _ => rfl) (pv 2) (nomark _))) (fun _ _ _ _ _ => (pv 3))) pa_nil)) pa_nil)))) pss_nil)))
      (pss_one (ps_ret (pe_callTy call_tuple_of rfl B.tuple boot_ty_tuple (pa_cons (pv 1) pa_nil))))), ?_⟩
    refine ⟨by decide, fun L nL => ?_⟩
    have en : ((ns.length : Nat) : Int).toNat = ns.length := by omega
    refine ⟨.ref a, rfl, a, _, rfl, (hS.same (same_new nL)).or, _, rfl, by rw [List.length_map]; omega, by rw [List.length_map]; omega, ?_⟩
    rw [List.length_map, en]
    refine for_it walk_range (fun i σ H3 => ∃ y2, σ = [some (.ref a), some (.ref L), y2, none] ∧ Same H H3 ∧ ∃ ts, H3 L = some (.lst (ts.map V.ref)) ∧ Tups H3 ts (lotsJ ns i)) ⟨none, rfl, same_new nL, [], upd_same, Tups.nil⟩ (fun _ _ _ _ _ => trivial) ?_ ?_
    · rintro i x σ H3 H4 hi ⟨y2, rfl, s3, ts, L3, T3⟩ ⟨rfl, ex⟩
      obtain rfl := r0 ex
      have hx : ns[i]? = some ns[i] := List.getElem?_eq_getElem hi
      refine ⟨.ref a, rfl, .int i, rfl, ix_B (hS.same s3) (by rw [List.getElem?_map, hx]; rfl) ⟨.int i, rfl, rfl, _, rfl, ?_⟩⟩
      by_cases ce : ns[i] = i
      · rw [decide_eq_true (nv_inj.mpr ce)]
        have hit : ns[i]? = some i := by rw [hx, ce]
        refine iteT ⟨.ref L, rfl, .inl ⟨rfl, _, SqL.of L3⟩, .ref a, rfl, a, _, rfl, (hS.same s3).or, _, rfl, by rw [List.length_map]; omega, by rw [List.length_map]; omega, fun D nD => ?_⟩
        rw [List.length_map, en]
        have LD : L ≠ D := ne_of_none L3 nD
        refine lc_it walk_range (fun j H5 => Same H4 H5 ∧ H5 D = some (.lst ((row ns j i).map nv))) ⟨same_new nD, upd_same⟩ (fun _ _ _ _ => trivial) ?_ ?_
        · rintro j x H5 H6 hj ⟨s5, D5⟩ ⟨rfl, ex2⟩
          obtain rfl := r0 ex2
          have hy : ns[j]? = some ns[j] := List.getElem?_eq_getElem hj
          refine ⟨rfl, .ref a, rfl, .int j, rfl, ix_B (hS.same (s3.trans s5)) (by rw [List.getElem?_map, hy]; rfl) ⟨.int i, rfl, rfl, _, rfl, ?_⟩⟩
          by_cases cj : ns[j] = i
          · rw [decide_eq_true (nv_inj.mpr cj)]
            refine iteT ⟨.int j, rfl, _, D5, ?_, s5.own nD, ?_⟩
            · rw [List.length_map]; exact line_small' (by have := row_len ns j i; omega)
            · rw [upd_same, row_hit (by rw [hy, cj]), List.map_append]; rfl
          · rw [decide_eq_false fun e => cj (nv_inj.mp e)]
            refine iteF ⟨s5, ?_⟩
            rw [row_miss (by rw [hy]; exact fun e => cj (Option.some.inj e))]; exact D5
        · rintro H5 ⟨s5, D5⟩
          refine ⟨D, _, rfl, .inl ⟨SqL.of D5, fun t nt => ?_⟩⟩
          have L5 := s5 _ _ L3
          have Lt : L ≠ t := ne_of_none L5 nt
          have s6 := s5.new (o := .tup ((row ns ns.length i).map nv)) nt
          refine ⟨L, _, _, rfl, rfl, by rw [upd_ne Lt]; exact L5, ?_, some (.int i), rfl, ?_, ts ++ [t], by rw [upd_same, List.map_append]; rfl, ?_⟩
          · rw [List.length_map, T3.len]; exact line_small' (by have := lotsJ_len ns i; omega)
          · exact (s3.trans s6).own nL
          · rw [lotsJ_hit hit]
            have L6 : (upd H5 t (.tup ((row ns ns.length i).map nv))) L = some (.lst (ts.map V.ref)) := by rw [upd_ne Lt]; exact L5
            refine (T3.same s6).snoc (fun b xs e => ?_) ?_
            · rw [upd_ne (fun q => by rw [q, L6] at e; cases e)]; exact e
            · rw [upd_ne Lt.symm]; exact upd_same
      · rw [decide_eq_false fun e => ce (nv_inj.mp e)]
        refine iteF ⟨some (.int i), rfl, s3, ts, L3, ?_⟩
        rw [lotsJ_miss (by rw [hx]; exact fun e => ce (Option.some.inj e))]; exact T3
    · rintro σ H3 ⟨y2, rfl, s3, ts, L3, T3⟩
      rw [lotsJ_all] at T3
      exact ⟨.ref L, rfl, L, _, rfl, .inl ⟨SqL.of L3, fun t nt => q _ t (s3.new nt) (s3.free nt) ⟨ts, upd_same, T3.same (same_new nt)⟩⟩⟩
/-! ### _law_partingtext -/
def spPtext (K : PySem.W.Frag) : Sp := fun vs H Q _ => ∃ (b : Bool) (a : Addr) (ns : List Nat), vs = [.ref a] ∧ SqB K b H a (ns.map nv) ∧ ns.length ≤ 20 ∧ ∀ H', Same H H' → Q (.str (text ns)) H'
theorem ok_ptext {f : Addr} {fd : FuncData} {k : Nat} (B : Bl mg) (cL : Cal P w K mg base 1 "_law_lots" (spLlots K) []) (F : L2.Fun K "_law_partingtext" "_law_partingtext" s_ptext f fd) : FnOk P w K mg base L2.CX0 (k + 2) f fd ["_law_names"] (spPtext K) := by
  refine F.ok sc_ptext (fun vs H Q E h => ?_) (fun cdv A outer s H vs Q E hr h => ?_)
  · obtain ⟨b, a, ns, rfl, _⟩ := h
    rfl
  · obtain ⟨b, a, ns, rfl, hS, hl, q⟩ := h
    refine ⟨_, pss_one (ps_ret (pJoin K pe_str (pe_lc (own := [("_law_lot", 1)]) (g := gName 1) (tt := tYes) rfl sc_ptext.nd (piT K (C8.pe_c cL hr (by omega) rfl (pa_cons (pv 0) pa_nil))) (blkOk_by (N := n_ptext) (sc := defScope s_ptext) (by decide +kernel)) (fun _ _ _ _ _ => pg_name (i := 1) sc_ptext.nd rfl (Or.inl rfl)) (fun _ _ _ _ _ => pts_nil) (fun _ _ _ _ _ => (pJoin K pe_str (pe_lc (own := [("_law_k", 2)]) (g := gName 2) (tt := tYes) rfl sc_ptext.nd (piT K (pv 1)) (blkOk_by (by kernel_rfl)) (fun _ _ _ _ _ => pg_name (i := 2) sc_ptext.nd rfl (Or.inl rfl)) (fun _ _ _ _ _ => pts_nil) (fun _ _ _ _ _ => (pe_callTy call_str_int rfl B.str boot_ty_str (pa_cons (pv 2) pa_nil))))))))), ?_⟩
    refine ⟨⟨_, rfl⟩, .ref a, rfl, b, a, ns, rfl, hS, hl, fun H0 tl s0 _ ⟨ts, t1, t2⟩ => ?_⟩
    have hT : ∀ {H'}, Same H0 H' → SqT K H' tl (ts.map V.ref) := fun e => .inl (.inl (e _ _ t1))
    have hLl : (lots ns).length ≤ 20 := Nat.le_trans (lots_len ns) hl
    refine ⟨tl, rfl, ⟨_, hT (Same.refl H0)⟩, fun D nD => ?_⟩
    refine lc_it walk_tup (fun i H4 => Same H0 H4 ∧ H4 D = some (.lst (((lots ns).take i).map fun l => V.str (mk (lotL l))))) ⟨same_new nD, upd_same⟩ (fun i H4 _ ⟨s, _⟩ => hT s) ?_ ?_
    · rintro i x H4 H5 hi ⟨s4, D4⟩ ⟨rfl, e2⟩
      rw [List.length_map] at hi
      have hi2 : i < (lots ns).length := by rw [← t2.len]; exact hi
      have ht : ts[i]? = some ts[i] := List.getElem?_eq_getElem hi
      have hli : (lots ns)[i]? = some (lots ns)[i] := List.getElem?_eq_getElem hi2
      obtain rfl : V.ref ts[i] = x := by
        have := show (ts.map V.ref)[i]? = some x from e2
        rw [List.getElem?_map, ht] at this
        exact Option.some.inj this
      obtain ⟨ll, lk⟩ := lots_small (get_mem hli)
      have hL : ∀ {H'}, Same H0 H' → SqT K H' ts[i] ((lots ns)[i].map nv) := fun e => .inl (.inl (e _ _ (t2.at_ ht hli)))
      refine ⟨rfl, yesT ?_⟩
      refine ⟨⟨_, rfl⟩, .ref ts[i], rfl, ts[i], rfl, ⟨_, hL s4⟩, fun D2 nD2 => ?_⟩
      have DD : D ≠ D2 := ne_of_none D4 nD2
      refine lc_it walk_tup (fun j H6 => Same H0 H6 ∧ H6 D = some (.lst (((lots ns).take i).map fun l => V.str (mk (lotL l)))) ∧ H6 D2 = some (.lst (((lots ns)[i].take j).map fun k => V.str (mk (numL k))))) ⟨s4.new nD2, by rw [upd_ne DD]; exact D4, upd_same⟩ (fun j H6 _ ⟨s, _⟩ => hL s) ?_ ?_
      · rintro j x H6 H7 hj ⟨s6, D6, E6⟩ ⟨rfl, e3⟩
        rw [List.length_map] at hj
        have hlj : (lots ns)[i][j]? = some (lots ns)[i][j] := List.getElem?_eq_getElem hj
        obtain rfl : nv (lots ns)[i][j] = x := by
          have := show ((lots ns)[i].map nv)[j]? = some x from e3
          rw [List.getElem?_map, hlj] at this
          exact Option.some.inj this
        have hk20 := lk _ (get_mem hlj)
        refine ⟨rfl, yesT ⟨nv (lots ns)[i][j], rfl, _, rfl, ?_, _, E6, ?_, (s6.own (s4.free nD2)), by rw [upd_ne DD]; exact D6, ?_⟩⟩
        · exact log_small (by omega)
        · rw [List.length_map]; exact line_small' (by rw [List.length_take]; omega)
        · rw [upd_same, List.take_add_one, hlj, List.map_append, str_num]; rfl
      · rintro H6 ⟨s6, D6, E6⟩
        rw [List.length_map, List.take_length] at E6
        refine ⟨_, D2, (lots ns)[i].map fun k => mk (numL k), rfl, rfl, .inl (SqL.of (by rw [E6, List.map_map]; rfl)), ?_, _, D6, ?_, ?_, ?_⟩
        · refine Nat.le_trans (Nat.add_le_add (sum_le 2 _ fun y hy => ?_) (Nat.le_refl _)) (?_ : _ ≤ _)
          · obtain ⟨k, hk, rfl⟩ := List.mem_map.mp hy
            rw [mk_len]
            exact numL_len (k := 2) (by decide) (by have := lk k hk; omega)
          · rw [List.length_map]
            have : (" " : Str).length = 1 := by decide +kernel
            rw [this]; omega
        · rw [List.length_map]; exact line_small' (by rw [List.length_take]; omega)
        · exact s6.own nD
        · rw [upd_same, List.take_add_one, hli, List.map_append, join_lot]; rfl
    · rintro H4 ⟨s4, D4⟩
      rw [List.length_map, t2.len, List.take_length] at D4
      refine ⟨_, D, (lots ns).map fun l => mk (lotL l), rfl, rfl, .inl (SqL.of (by rw [D4, List.map_map]; rfl)), ?_, ?_⟩
      · refine Nat.le_trans (Nat.add_le_add (sum_le 60 _ fun y hy => ?_) (Nat.le_refl _)) (?_ : _ ≤ _)
        · obtain ⟨l, hm, rfl⟩ := List.mem_map.mp hy
          rw [mk_len]
          obtain ⟨h1, h2⟩ := lots_small hm
          exact len_lot hl h1 h2
        · rw [List.length_map]
          have : ("|" : Str).length = 1 := by decide +kernel
          rw [this]; omega
      · rw [join_text]
        exact q _ (s0.trans s4)
end
end Kw

set_option maxHeartbeats 4000000
/-! M6: bad texts, the texts of a turn. Printed by gen_m6.py. -/
namespace Kw
open PySem PySem.Spec PyProof.Rows L2
open C8 (Cal)
open CwR (PET.of pet_op pst_if psst_one psst_nil pst_ret)
/-- a fine text of at most 90000 signs -/
def Tx (v : V) : Prop := ∃ z, v = .str z ∧ Fine 90000 z
theorem Tx.of {n : Nat} {z : Str} (h : Fine n z) (k : n ≤ 90000) : Tx (.str z) := ⟨z, rfl, h.mono k⟩
theorem spl_each' (c : Nat) (l : List Nat) {p : List Nat} (h : p ∈ TL.spl [c] 0 [] l) : p.length ≤ l.length := by
  have hs := spl_sum c l []
  have k : ∀ ps : List (List Nat), p ∈ ps → p.length + 1 ≤ (ps.map fun p => p.length + 1).sum := by
    intro ps
    induction ps with
    | nil => intro h; cases h
    | cons a r ih =>
      intro h
      rw [List.map_cons, List.sum_cons]
      rcases List.mem_cons.mp h with q | q
      · rw [q]; omega
      · have := ih q; omega
  have := k _ h
  simp only [List.length_nil] at hs
  omega
theorem fine_text {ns : List Nat} (h : ns.length ≤ 20) : Fine 1220 (text ns) := fine_mk (asc_text ns) (len_text h)
theorem fc1 (z : Str) (h : ((TL.tl z).all (fun c => decide (c < 128)) && decide (z.length ≤ 20)) = true) : Fine 20 z := fine_of h
/-- fine texts -/
def Txm (v : V) : Prop := ∃ z, v = .str z ∧ Fine 3000 z
inductive AllT : List V → Prop
  | nil : AllT []
  | cons {v : V} {xs : List V} : Txm v → AllT xs → AllT (v :: xs)
theorem AllT.mem {xs : List V} (h : AllT xs) : ∀ v ∈ xs, Txm v := by
  induction h with
  | nil => intro v hv; cases hv
  | cons h1 _ ih =>
    intro v hv
    rcases List.mem_cons.mp hv with q | q
    · rw [q]; exact h1
    · exact ih v q
theorem AllT.append {xs ys : List V} (h : AllT xs) (k : AllT ys) : AllT (xs ++ ys) := by
  induction h with
  | nil => exact k
  | cons h1 _ ih => exact .cons h1 ih
abbrev Cst (z : Str) : Prop := ((TL.tl z).all (fun c => decide (c < 128)) && decide (z.length ≤ 20)) = true
theorem tc {z : Str} (h : Cst z) : Txm (.str z) := ⟨z, rfl, (fine_of h).mono (by omega)⟩
theorem tf {z : Str} {n : Nat} (h : Fine n z) (k : n ≤ 3000) : Txm (.str z) := ⟨z, rfl, h.mono k⟩
theorem tcg {z g : Str} (hg : Fine 1220 g) (h : Cst z) : Txm (.str (z ++ g)) := ⟨_, rfl, (fine_cat (fine_of h) hg).mono (by omega)⟩
theorem tgc {z g : Str} (hg : Fine 1220 g) (h : Cst z) : Txm (.str (g ++ z)) := ⟨_, rfl, (fine_cat hg (fine_of h)).mono (by omega)⟩
theorem trep {x y z : Str} (hg : Fine 1220 x) (h : Cst z) : Txm (.str (rep1 x y z)) := ⟨_, rfl, (fine_rep hg (fine_of h)).mono (by omega)⟩
theorem bd {n m : Nat} {x y : Str} (hx : Fine n x) (hy : Fine m y) (k : n + m ≤ 100000) : x.length + y.length ≤ sizeLine := by
  have := hx.len
  have := hy.len
  exact Nat.le_trans (show x.length + y.length ≤ 100000 by omega) (by decide)
theorem brep {n m : Nat} {x y : Str} (hx : Fine n x) (hy : Fine m y) (k : n + m ≤ 100000) : x.length + y.length ≤ 16777216 := by
  have := hx.len
  have := hy.len
  omega
theorem cutV_str (ys : List Str) (lo hi : Option Int) : cutV (ys.map V.str) lo hi = (((ys.drop (HT.sIx ys.length 0 lo)).take (HT.sIx ys.length ys.length hi - HT.sIx ys.length 0 lo)).map V.str) := by
  unfold cutV
  rw [List.length_map, List.map_take, List.map_drop]
/-- the weight of texts: their lengths and one each -/
def wt : List Str → Nat
  | [] => 0
  | y :: r => y.length + 1 + wt r
theorem wt_append : ∀ xs ys : List Str, wt (xs ++ ys) = wt xs + wt ys
  | [], ys => by simp [wt]
  | x :: r, ys => by show x.length + 1 + wt (r ++ ys) = x.length + 1 + wt r + wt ys; rw [wt_append r ys]; omega
theorem wt_rev : ∀ xs : List Str, wt xs.reverse = wt xs
  | [] => rfl
  | x :: r => by
    rw [List.reverse_cons, wt_append, wt_rev r]
    show wt r + (x.length + 1 + 0) = x.length + 1 + wt r
    omega
theorem wt_take : ∀ (n : Nat) (xs : List Str), wt (xs.take n) ≤ wt xs
  | 0, _ => Nat.zero_le _
  | n + 1, [] => Nat.le_refl _
  | n + 1, x :: r => Nat.add_le_add_left (wt_take n r) _
theorem wt_drop : ∀ (n : Nat) (xs : List Str), wt (xs.drop n) ≤ wt xs
  | 0, _ => Nat.le_refl _
  | n + 1, [] => Nat.le_refl _
  | n + 1, x :: r => Nat.le_trans (wt_drop n r) (Nat.le_add_left _ _)
theorem wt_sum : ∀ xs : List Str, wt xs = (xs.map (·.length)).sum + xs.length
  | [] => rfl
  | x :: r => by
    rw [List.map_cons, List.sum_cons, List.length_cons]
    show x.length + 1 + wt r = _
    rw [wt_sum r]
    omega
theorem wt_spl : ∀ ps : List (List Nat), wt (ps.map mk) = (ps.map fun p => p.length + 1).sum
  | [] => rfl
  | p :: r => by
    rw [List.map_cons, List.map_cons, List.sum_cons]
    show (mk p).length + 1 + wt (r.map mk) = _
    rw [wt_spl r, mk_len]
theorem fine_joinW {n : Nat} {y : Str} {ys : List Str} (hy : Fine 1 y) (h : ∀ z ∈ ys, Asc (TL.tl z)) (hn : wt ys ≤ n) : Fine n (Txt.join y ys) := by
  have e : TL.tl (Txt.join y ys) = TL.joinL (TL.tl y) (ys.map TL.tl) := by rw [TL.join_eq, TL.tl_join]
  refine ⟨?_, ?_⟩
  · rw [e]
    refine asc_join hy.asc fun p hp => ?_
    obtain ⟨z, hz, rfl⟩ := List.mem_map.mp hp
    exact h z hz
  · have k : (Txt.join y ys).length = (ys.map (·.length)).sum + (ys.length - 1) * y.length := PySem.size_glued y ys
    have w := wt_sum ys
    have := hy.len
    have k2 : (ys.length - 1) * y.length ≤ (ys.length - 1) * 1 := Nat.mul_le_mul_left _ this
    omega
/-- what stands while the list of bad texts grows -/
structure Few (K : PySem.W.Frag) (H Hc : Hp) (a c t L F : Addr) (ns : List Nat) (ys : List Str) (xs : List V) : Prop where
  bt : But a H Hc
  hs : Sto Hc a c
  hT : SqT K Hc t (ns.map nv)
  hL : Hc L = some (.lst (ys.map V.str))
  hF : Hc F = some (.lst xs)
  hX : AllT xs
  aF : F ≠ a
theorem Few.new {K : PySem.W.Frag} {H Hc : Hp} {a c t L F p : Addr} {ns : List Nat} {ys : List Str} {xs : List V} {o : HO} (S : Few K H Hc a c t L F ns ys xs) (h : Hc p = none) : Few K H (upd Hc p o) a c t L F ns ys xs :=
  ⟨S.bt.new h, S.hs.same (same_new h), SqT.same (same_new h) S.hT, same_new h _ _ S.hL, same_new h _ _ S.hF, S.hX, S.aF⟩
theorem cat_step {K : PySem.W.Frag} {H Hc : Hp} {a c t L F : Addr} {ns : List Nat} {ys : List Str} {xs ms : List V} (S : Few K H Hc a c t L F ns ys xs) (hm : AllT ms) (hl : xs.length + ms.length ≤ 1000) {Q' : VK} (h : ∀ F2 H2, Few K H H2 a c t L F2 ns ys (xs ++ ms) → Q' (.ref F2) H2) :
    ∀ M, Hc M = none → rCat (.ref F) (.ref M) (upd Hc M (.lst ms)) Q' := by
  intro M nM
  have S1 := S.new (o := .lst ms) nM
  refine ⟨F, M, xs, ms, rfl, rfl, S1.hF, upd_same, Nat.le_trans hl (by decide), fun p np => h p _ ?_⟩
  have S2 := S1.new (o := .lst (xs ++ ms)) np
  exact ⟨S2.bt, S2.hs, S2.hT, S2.hL, upd_same, S.hX.append hm, (S1.hs.ne np).1.symm⟩
section
variable {P : Program} {w : World} {K : PySem.W.Frag} {mg : Str → Option Value} {base : Heap}
def spBad (K : PySem.W.Frag) : Sp := fun vs H Q _ => ∃ (a c t : Addr) (ns : List Nat), vs = [.ref a, .ref t] ∧ H t = some (.tup (ns.map nv)) ∧ ns.length ≤ 20 ∧ Sto H a c ∧ ∀ z H', Fine 3000 z → But a H H' → Sto H' a c → Q (.str z) H'
theorem ok_badtext {f : Addr} {fd : FuncData} {k : Nat} (B : Bl mg) (cP : Cal P w K mg base 3 "_law_pick" (spPick K) []) (cX : Cal P w K mg base 2 "_law_partingtext" (spPtext K) []) (F : L2.Fun K "_law_badpartingtext" "_law_badpartingtext" s_badtext f fd) :
    FnOk P w K mg base L2.CX0 (k + 4) f fd ["_law_store_here", "_law_names"] (spBad K) := by
  refine F.ok sc_badtext (fun vs H Q E h => ?_) (fun cdv A outer s H vs Q E hr h => ?_)
  · obtain ⟨a, c, t, ns, rfl, _⟩ := h
    rfl
  · obtain ⟨a, c, t, ns, rfl, ht, hl, hs, q⟩ := h
    have hg : Fine 1220 (text ns) := fine_text hl
    generalize hgt : text ns = g at hg
    have hgl : g.length ≤ sizeLine := Nat.le_trans hg.len (by decide)
    -- from the last if on
    have T2 : ∃ t2, PSsT (cxOf L2.CX0 P w K mg base n_badtext "_law_badpartingtext" (defScope s_badtext) f cdv A outer s H E).nox ((defBody s_badtext).drop 8) t2 ∧ ∀ (L F : Addr) (H1 : Hp) (ys : List Str) (xs : List V), Few K H H1 a c t L F ns ys xs → 1 ≤ xs.length → xs.length ≤ 60 →
        t2 { nx := fun _ H' => Q .non H', rt := Q } [some (.ref a), some (.ref t), some (.str g), some (.ref L), some (.ref F)] H1 := by
      refine ⟨_, psst_cons (pst_if (pt_cmpR op_eq (pe_callB call_len_seq (by rfl) B.len boot_len (pa_cons (pv 1) pa_nil)) pe_int (nomark _)) (psst_one (pst_set (i := 4) sc_badtext.nd rfl (.inl rfl) (pet_op op_cat (PET.of (pv 4)) (pet_lst (pat_cons (PET.of (pe_op op_add_str (pv 2) pe_str)) (pat_cons (PET.of (pe_op op_add_str (pv 2) pe_str)) (pat_cons (PET.of (pe_op op_add_str (pv 2) pe_str)) pat_nil))))))) psst_nil)
      (psst_one (pst_ret (PET.of (C8.pe_c cP hr (by omega) rfl (pa_cons (pv 0) (pa_cons (pv 4) pa_nil)))))), ?_⟩
      intro L F H1 ys xs S x1 x2
      have fin : ∀ (F : Addr) (H1 : Hp) (xs : List V), Few K H H1 a c t L F ns ys xs → 1 ≤ xs.length → xs.length ≤ 90 → tRet (tCall (spPick K) [] C8.E0 (tCons (tVar 0) (tCons (tVar 4) tNil))) { nx := fun _ H' => Q .non H', rt := Q } [some (.ref a), some (.ref t), some (.str g), some (.ref L), some (.ref F)] H1 := by
        intro F H1 xs S x1 x2
        refine ⟨.ref a, rfl, .ref F, rfl, a, c, .ref F, Txm, rfl, S.hs, .inr (.inr ⟨F, xs, rfl, S.aF, S.hF, x1, by omega, S.hX.mem⟩), fun v H2 hv bt hs' => ?_⟩
        obtain ⟨z, rfl, hz⟩ := hv
        exact q z H2 hz (S.bt.trans bt) hs'
      refine ⟨.ref t, rfl, t, _, rfl, .inr S.hT, rfl, _, rfl, ?_⟩
      by_cases c16 : V.int (((ns.map nv).length : Nat) : Int) = V.int 16
      · rw [decide_eq_true c16]
        refine iteT ?_
        refine ⟨.ref F, rfl, .str g, rfl, _, _, rfl, rfl, bd hg (fine_of (n := 20) (by decide +kernel)) (by omega), .str g, rfl, _, _, rfl, rfl, bd hg (fine_of (n := 20) (by decide +kernel)) (by omega), .str g, rfl, _, _, rfl, rfl, bd hg (fine_of (n := 20) (by decide +kernel)) (by omega),  by show 3 ≤ sizeLine; decide, cat_step S (.cons (tgc hg (by decide +kernel)) (.cons (tgc hg (by decide +kernel)) (.cons (tgc hg (by decide +kernel)) .nil))) (by simp only [List.length_cons, List.length_nil]; omega) fun F H1 S => ?_⟩
        exact fin F H1 _ S (by simp only [List.length_append, List.length_cons, List.length_nil]; omega) (by simp only [List.length_append, List.length_cons, List.length_nil]; omega)
      · rw [decide_eq_false c16]
        exact iteF (fin F H1 xs S x1 (by omega))
    obtain ⟨t2, hP2, hq2⟩ := T2
    refine ⟨_, pss_cons (ps_set (i := 2) sc_badtext.nd rfl (.inl rfl) (C8.pe_c cX hr (by omega) rfl (pa_cons (pv 1) pa_nil)))
      (pss_cons (ps_set (i := 3) sc_badtext.nd rfl (.inl rfl) (pe_split (pv 2) pe_str))
      (pss_lstT (i := 4) sc_badtext.nd rfl (.inl rfl) (pa_cons (pe_op op_add_str pe_str (pv 2)) (pa_cons (pe_op op_add_str (pv 2) pe_str) (pa_cons (pe_op op_add_str (pv 2) pe_str) (pa_cons (pe_op op_add_str pe_str (pv 2)) (pa_cons (pe_op op_add_str (pv 2) pe_str) (pa_cons (pe_op op_add_str (pv 2) pe_str) pa_nil))))))
      (psst_cons (pst_set (i := 4) sc_badtext.nd rfl (.inl rfl) (pet_op op_cat (PET.of (pv 4)) (pet_lst (pat_cons (PET.of (pe_op op_add_str pe_str (pv 2))) (pat_cons (PET.of (pe_op op_add_str pe_str (pv 2))) (pat_cons (PET.of (pe_op op_add_str (pv 2) pe_str)) pat_nil))))))
      (psst_cons (pst_set (i := 4) sc_badtext.nd rfl (.inl rfl) (pet_op op_cat (PET.of (pv 4)) (pet_lst (pat_cons (pet_rep1 (pv 2)) (pat_cons (PET.of (pe_op op_add_str (pe_op op_add_str (pv 2) pe_str) (pe_callTy call_str_int rfl B.str boot_ty_str (pa_cons (pe_op op_add (pe_callB call_len_seq (by rfl) B.len boot_len (pa_cons (pv 1) pa_nil)) pe_int) pa_nil)))) (pat_cons (PET.of (pe_op op_add_str (pv 2) pe_str)) (pat_cons (PET.of (pe_slice sl_str (pv 2) (po_some pe_int) po_none)) pat_nil)))))))
      (psst_cons (pst_set (i := 4) sc_badtext.nd rfl (.inl rfl) (pet_op op_cat (PET.of (pv 4)) (pet_lst (pat_cons (PET.of pe_str) (pat_cons (PET.of pe_str) (pat_cons (PET.of pe_str) pat_nil))))))
      (psst_cons (pst_set (i := 4) sc_badtext.nd rfl (.inl rfl) (pet_op op_cat (PET.of (pv 4)) (pet_lst (pat_cons (PET.of pe_str) (pat_cons (PET.of pe_str) (pat_cons (PET.of pe_str) (pat_cons (PET.of pe_str) (pat_cons (PET.of pe_str) (pat_cons (PET.of pe_str) (pat_cons (PET.of pe_str) (pat_cons (PET.of pe_str) (pat_cons (PET.of (pe_op op_add_str (pe_op op_add_str (pv 2) pe_str) (pv 2))) (pat_cons (PET.of (pe_op op_add_str (pe_op op_add_str (pv 2) pe_str) (pv 2))) pat_nil)))))))))))))
      (psst_cons (pst_if (pt_cmpR op_gt (pe_callB call_len_seq (by rfl) B.len boot_len (pa_cons (pv 3) pa_nil)) pe_int (nomark _)) (psst_one (pst_set (i := 4) sc_badtext.nd rfl (.inl rfl) (pet_op op_cat (PET.of (pv 4)) (pet_lst (pat_cons (PET.of (pJoin K pe_str (pe_slice sl_list (pv 3) (po_some pe_int) po_none))) (pat_cons (PET.of (pJoin K pe_str (pe_revL (pv 3)))) (pat_cons (pet_rep1 (pv 2)) (pat_cons (pet_rep1 (pv 2)) pat_nil)))))))) psst_nil)
      (hP2)))))))), ?_⟩
    refine ⟨.ref t, rfl, true, t, ns, rfl, .inl (.inl ht), hl, fun H1 s1 => ?_⟩
    rw [hgt]
    obtain ⟨gl, egl, ga, gll⟩ := fine_list hg
    refine ⟨.str g, rfl, ⟨_, rfl⟩, g, ("|" : Str), rfl, rfl, by rw [show ("|" : Str).length = 1 by decide +kernel]; rfl, Nat.le_trans (Nat.add_le_add_right hg.len 2) (by decide), fun L nL => ?_⟩
    obtain ⟨ys, eys, hys, hyl⟩ : ∃ ys : List Str, Txt.split g ("|" : Str) = ys ∧ (∀ y ∈ ys, Fine 1220 y) ∧ wt ys ≤ 1221 := by
      refine ⟨_, rfl, fun y hy => ?_, ?_⟩
      · rw [egl, split_bar] at hy
        obtain ⟨p, hp, rfl⟩ := List.mem_map.mp hy
        refine fine_mk (fun d hd => ?_) (Nat.le_trans (spl_each' 124 gl hp) gll)
        rcases spl_mem 124 gl [] p d hp hd with z | z
        · cases z
        · exact ga d z
      · rw [egl, split_bar, wt_spl, spl_sum]
        simp only [List.length_nil]
        omega
    rw [eys]
    have ht1 := s1 _ _ ht
    have st1 := hs.same s1
    have hlog : (((ns.map nv).length : Nat) + 1 : Int).natAbs.log2 < 1920 := by
      rw [List.length_map]
      exact log_small (by omega)
    have hnum : Fine 20 (Str.ofString (toString (((ns.map nv).length : Nat) + 1 : Int))) := by
      rw [List.length_map, show ((ns.length : Nat) : Int) + 1 = ((ns.length + 1 : Nat) : Int) by omega]
      exact (fine_num (TL.numL_len (k := 2) (by decide) (by omega))).mono (by decide)
    refine ⟨.str g, rfl, _, _, rfl, rfl, bd (fine_of (n := 20) (by decide +kernel)) hg (by omega), .str g, rfl, _, _, rfl, rfl, bd hg (fine_of (n := 20) (by decide +kernel)) (by omega), .str g, rfl, _, _, rfl, rfl, bd hg (fine_of (n := 20) (by decide +kernel)) (by omega), .str g, rfl, _, _, rfl, rfl, bd (fine_of (n := 20) (by decide +kernel)) hg (by omega), .str g, rfl, _, _, rfl, rfl, bd hg (fine_of (n := 20) (by decide +kernel)) (by omega), .str g, rfl, _, _, rfl, rfl, bd hg (fine_of (n := 20) (by decide +kernel)) (by omega),  by show 7 ≤ sizeLine; decide, fun F nF => ?_⟩
    have S : Few K H (upd (upd H1 L (.lst (ys.map V.str))) F (.lst [V.str "", .str (" " ++ g), .str (g ++ " "), .str (g ++ "|"), .str ("|" ++ g), .str (g ++ "\n"), .str (g ++ "|0")])) a c t L F ns ys [V.str "", .str (" " ++ g), .str (g ++ " "), .str (g ++ "|"), .str ("|" ++ g), .str (g ++ "\n"), .str (g ++ "|0")] := ⟨(s1.new nL).but.new nF, (st1.same (same_new nL)).same (same_new nF), .inl (.inl (same_new nF _ _ (same_new nL _ _ ht1))), same_new nF _ _ upd_same, upd_same, .cons (tc (by decide +kernel)) (.cons (tcg hg (by decide +kernel)) (.cons (tgc hg (by decide +kernel)) (.cons (tgc hg (by decide +kernel)) (.cons (tcg hg (by decide +kernel)) (.cons (tgc hg (by decide +kernel)) (.cons (tgc hg (by decide +kernel)) .nil)))))), (((st1.same (same_new nL)).ne nF).1).symm⟩
    refine ⟨.ref F, rfl, .str g, rfl, _, _, rfl, rfl, bd (fine_of (n := 20) (by decide +kernel)) hg (by omega), .str g, rfl, _, _, rfl, rfl, bd (fine_of (n := 20) (by decide +kernel)) hg (by omega), .str g, rfl, _, _, rfl, rfl, bd hg (fine_of (n := 20) (by decide +kernel)) (by omega),  by show 3 ≤ sizeLine; decide, cat_step S (.cons (tcg hg (by decide +kernel)) (.cons (tcg hg (by decide +kernel)) (.cons (tgc hg (by decide +kernel)) .nil))) (by simp only [List.length_append, List.length_cons, List.length_nil]; omega) fun F H1 S => ?_⟩
    refine ⟨.ref F, rfl, .str g, rfl, g, rfl, brep hg (fine_of (n := 20) (by decide +kernel)) (by omega), .str g, rfl, _, _, rfl, rfl, bd hg (fine_of (n := 20) (by decide +kernel)) (by omega), .ref t, rfl, t, _, rfl, .inr S.hT, _, 1, rfl, rfl, _, rfl, hlog, _, _, rfl, rfl, bd (fine_cat hg (fine_of (n := 20) (by decide +kernel))) hnum (by omega), .str g, rfl, _, _, rfl, rfl, bd hg (fine_of (n := 20) (by decide +kernel)) (by omega), .str g, rfl, 1, rfl, g, rfl, hgl,  by show 4 ≤ sizeLine; decide, cat_step S (.cons (trep hg (by decide +kernel)) (.cons (tf (fine_cat (fine_cat hg (fine_of (n := 20) (by decide +kernel))) hnum) (by omega)) (.cons (tgc hg (by decide +kernel)) (.cons (tf (fine_cut hg) (by omega)) .nil)))) (by simp only [List.length_append, List.length_cons, List.length_nil]; omega) fun F H1 S => ?_⟩
    refine ⟨.ref F, rfl,  by show 3 ≤ sizeLine; decide, cat_step S (.cons (tc (by decide +kernel)) (.cons (tc (by decide +kernel)) (.cons (tc (by decide +kernel)) .nil))) (by simp only [List.length_append, List.length_cons, List.length_nil]; omega) fun F H1 S => ?_⟩
    refine ⟨.ref F, rfl, .str g, rfl, _, _, rfl, rfl, bd hg (fine_of (n := 20) (by decide +kernel)) (by omega), .str g, rfl, _, _, rfl, rfl, bd (fine_cat hg (fine_of (n := 20) (by decide +kernel))) hg (by omega), .str g, rfl, _, _, rfl, rfl, bd hg (fine_of (n := 20) (by decide +kernel)) (by omega), .str g, rfl, _, _, rfl, rfl, bd (fine_cat hg (fine_of (n := 20) (by decide +kernel))) hg (by omega),  by show 10 ≤ sizeLine; decide, cat_step S (.cons (tc (by decide +kernel)) (.cons (tc (by decide +kernel)) (.cons (tc (by decide +kernel)) (.cons (tc (by decide +kernel)) (.cons (tc (by decide +kernel)) (.cons (tc (by decide +kernel)) (.cons (tc (by decide +kernel)) (.cons (tc (by decide +kernel)) (.cons (tf (fine_cat (fine_cat hg (fine_of (n := 20) (by decide +kernel))) hg) (by omega)) (.cons (tf (fine_cat (fine_cat hg (fine_of (n := 20) (by decide +kernel))) hg) (by omega)) .nil)))))))))) (by simp only [List.length_append, List.length_cons, List.length_nil]; omega) fun F H1 S => ?_⟩
    -- if len(lots) > 1
    obtain ⟨xs, S, x1, x2⟩ : ∃ xs : List V, Few K H H1 a c t L F ns ys xs ∧ 1 ≤ xs.length ∧ xs.length ≤ 40 := ⟨_, S, by simp only [List.length_append, List.length_cons, List.length_nil]; omega, by simp only [List.length_append, List.length_cons, List.length_nil]; omega⟩
    refine ⟨.ref L, rfl, L, _, rfl, .inl (SqL.of S.hL), _, 1, rfl, rfl, _, rfl, ?_⟩
    by_cases cl : ((((ys.map V.str).length : Nat) : Int) > 1)
    · rw [decide_eq_true cl]
      refine iteT ⟨.ref F, rfl, ⟨_, rfl⟩, .ref L, rfl, 1, rfl, L, _, rfl, SqL.of S.hL, fun p np => ?_⟩
      have S1 := S.new (o := .lst (cutV (ys.map V.str) (some 1) none)) np
      have hb1 : Fine 1 ("|" : Str) := fine_of (by decide +kernel)
      have w0 := wt_sum ys
      have w1 := Nat.le_trans (wt_take (HT.sIx ys.length ys.length none - HT.sIx ys.length 0 (some 1)) (ys.drop (HT.sIx ys.length 0 (some 1)))) (wt_drop (HT.sIx ys.length 0 (some 1)) ys)
      have w1s := wt_sum ((ys.drop (HT.sIx ys.length 0 (some 1))).take (HT.sIx ys.length ys.length none - HT.sIx ys.length 0 (some 1)))
      refine ⟨_, p, _, rfl, rfl, .inl (SqL.of (by rw [upd_same, cutV_str])), by rw [show ("|" : Str).length = 1 by decide +kernel]; omega, ⟨_, rfl⟩, .ref L, rfl, L, _, rfl, SqL.of S1.hL, fun p2 np2 => ?_⟩
      have S2 := S1.new (o := .lst (ys.map V.str).reverse) np2
      have w2 := wt_rev ys
      have w2s := wt_sum ys.reverse
      refine ⟨_, p2, ys.reverse, rfl, rfl, .inl (SqL.of (by rw [upd_same, List.map_reverse])), by rw [show ("|" : Str).length = 1 by decide +kernel]; omega, .str g, rfl, g, rfl, brep hg (fine_of (n := 20) (by decide +kernel)) (by omega), .str g, rfl, g, rfl, brep hg (fine_of (n := 20) (by decide +kernel)) (by omega), by show 4 ≤ sizeLine; decide, ?_⟩
      refine cat_step S2 (.cons (tf (fine_joinW (n := 1221) hb1 (fun z hz => (hys z (List.mem_of_mem_drop (List.mem_of_mem_take hz))).asc) (Nat.le_trans w1 hyl)) (by omega)) (.cons (tf (fine_joinW (n := 1221) hb1 (fun z hz => (hys z (List.mem_reverse.mp hz)).asc) (by omega)) (by omega)) (.cons (trep hg (by decide +kernel)) (.cons (trep hg (by decide +kernel)) .nil)))) (by simp only [List.length_cons, List.length_nil]; omega) fun F H1 S => ?_
      exact hq2 L F H1 ys _ S (by simp only [List.length_append, List.length_cons, List.length_nil]; omega) (by simp only [List.length_append, List.length_cons, List.length_nil]; omega)
    · rw [decide_eq_false cl]
      exact iteF (hq2 L F H1 ys xs S x1 (by omega))
end
end Kw

set_option maxHeartbeats 4000000
/-! M7: the texts of a turn. Printed by gen_m7.py. -/
namespace Kw
open PySem PySem.Spec PyProof.Rows L2
open C8 (Cal)
open CwR (PET.of pet_op psst_one pst_ret)
/-- what stands while the list of texts grows -/
structure Txs (H Hc : Hp) (a c t1 t2 F : Addr) (ns1 ns2 : List Nat) (xs : List V) : Prop where
  bt : But a H Hc
  hs : Sto Hc a c
  h1 : Hc t1 = some (.tup (ns1.map nv))
  h2 : Hc t2 = some (.tup (ns2.map nv))
  hF : Hc F = some (.lst xs)
  hX : ∀ v ∈ xs, Tx v
  aF : F ≠ a
  nF : H F = none
  cF : c ≠ F
theorem But.tup' {a c t : Addr} {H H1 : Hp} {xs : List V} (x : But a H H1) (hs : Sto H a c) (h : H t = some (.tup xs)) : H1 t = some (.tup xs) := by
  obtain ⟨ys, e⟩ := hs.lst
  exact x _ _ (fun q => by rw [q, e] at h; cases h) h
section
variable {H Hc : Hp} {a c t1 t2 F p : Addr} {ns1 ns2 : List Nat} {xs ms : List V} {o : HO}
theorem Txs.new (S : Txs H Hc a c t1 t2 F ns1 ns2 xs) (h : Hc p = none) : Txs H (upd Hc p o) a c t1 t2 F ns1 ns2 xs :=
  ⟨S.bt.new h, S.hs.same (same_new h), same_new h _ _ S.h1, same_new h _ _ S.h2, same_new h _ _ S.hF, S.hX, S.aF, S.nF, S.cF⟩
theorem Txs.but {Hd : Hp} (S : Txs H Hc a c t1 t2 F ns1 ns2 xs) (x : But a Hc Hd) (hs : Sto Hd a c) : Txs H Hd a c t1 t2 F ns1 ns2 xs :=
  ⟨S.bt.trans x, hs, x.tup' S.hs S.h1, x.tup' S.hs S.h2, x _ _ S.aF S.hF, S.hX, S.aF, S.nF, S.cF⟩
theorem txs_cat {M : Addr} (S : Txs H Hc a c t1 t2 F ns1 ns2 xs) (hM : Hc M = some (.lst ms)) (hm : ∀ v ∈ ms, Tx v) (hl : xs.length + ms.length ≤ 1000) {Q' : VK} (h : ∀ F2 H2, Txs H H2 a c t1 t2 F2 ns1 ns2 (xs ++ ms) → Q' (.ref F2) H2) : rCat (.ref F) (.ref M) Hc Q' := by
  refine ⟨F, M, xs, ms, rfl, rfl, S.hF, hM, Nat.le_trans hl (by decide), fun p np => h p _ ?_⟩
  have S2 := S.new (o := .lst (xs ++ ms)) np
  refine ⟨S2.bt, S2.hs, S2.h1, S2.h2, upd_same, fun v hv => ?_, (S.hs.ne np).1.symm, S.bt.free S.hs np, (S.hs.ne np).2⟩
  rcases List.mem_append.mp hv with q | q
  · exact S.hX v q
  · exact hm v q
theorem txs_app {v : V} (S : Txs H Hc a c t1 t2 F ns1 ns2 xs) (hv : Tx v) : Txs H (upd Hc F (.lst (xs ++ [v]))) a c t1 t2 F ns1 ns2 (xs ++ [v]) := by
  have ne : ∀ {t : Addr} {ys : List V}, Hc t = some (.tup ys) → t ≠ F := fun {t ys} e q => by rw [q, S.hF] at e; cases e
  refine ⟨S.bt.own S.nF, S.hs.own S.aF.symm S.cF, by rw [upd_ne (ne S.h1)]; exact S.h1, by rw [upd_ne (ne S.h2)]; exact S.h2, upd_same, fun u hu => ?_, S.aF, S.nF, S.cF⟩
  rcases List.mem_append.mp hu with q | q
  · exact S.hX u q
  · rw [List.mem_singleton.mp q]; exact hv
end
section
variable {P : Program} {w : World} {K : PySem.W.Frag} {mg : Str → Option Value} {base : Heap}
def spTexts : Sp := fun vs H Q _ => ∃ (a c t1 t2 : Addr) (ns1 ns2 : List Nat), vs = [.ref a, .ref t1, .ref t2] ∧ H t1 = some (.tup (ns1.map nv)) ∧ H t2 = some (.tup (ns2.map nv)) ∧ ns1.length ≤ 20 ∧ ns2.length ≤ 20 ∧ Sto H a c ∧
  ∀ H' l xs, But a H H' → Sto H' a c → H l = none → H' l = some (.lst xs) → xs.length ≤ 100 → (∀ v ∈ xs, Tx v) → Q (.ref l) H'
theorem ok_texts {f : Addr} {fd : FuncData} {k : Nat} (B : Bl mg) (cT : Cal P w K mg base 2 "_law_take" spTake []) (cP : Cal P w K mg base 3 "_law_pick" (spPick K) []) (cB : Cal P w K mg base 4 "_law_between" spBetween []) (cX : Cal P w K mg base 2 "_law_partingtext" (spPtext K) [])
    (cA : Cal P w K mg base 4 "_law_badpartingtext" (spBad K) []) (cE : Cal P w K mg base 5 "_law_benttext" spBent []) (cL : Cal P w K mg base 5 "_law_text" spLtext []) (cR : Cal P w K mg base 3 "_law_parting" spLpart []) (F : L2.Fun K "_law_texts" "_law_texts" s_texts f fd) :
    FnOk P w K mg base L2.CX0 (k + 6) f fd ["_law_store_here", "_law_one", "_law_two"] spTexts := by
  refine F.ok sc_texts (fun vs H Q E h => ?_) (fun cdv A outer s H vs Q E hr h => ?_)
  · obtain ⟨a, c, t1, t2, ns1, ns2, rfl, _⟩ := h
    rfl
  · obtain ⟨a, c, t1, t2, ns1, ns2, rfl, h1, h2, l1, l2, hs, q⟩ := h
    refine ⟨_, pss_cons (ps_set (i := 3) sc_texts.nd rfl (Or.inr rfl) (C8.pe_c cX hr (by omega) rfl (pa_cons (pv 1) pa_nil)))
      (pss_cons (ps_set (i := 4) sc_texts.nd rfl (.inl rfl) (C8.pe_c cX hr (by omega) rfl (pa_cons (pv 2) pa_nil)))
      (pss_str (i := 5) sc_texts.nd rfl (Or.inr rfl)
      (psst_cons (PST.of (ps_set (i := 6) sc_texts.nd rfl (.inl rfl) (pe_lst (pa_cons (pv 3) (pa_cons (pv 4) (pa_cons (pe_op op_add_str (pe_op op_add_str (pv 3) pe_str) (pv 4)) (pa_cons (pe_op op_add_str (pv 3) pe_str) (pa_cons (pe_op op_add_str pe_str (pv 3)) (pa_cons (C8.pe_c cA hr (by omega) rfl (pa_cons (pv 0) (pa_cons (pv 1) pa_nil))) pa_nil)))))))))
      (psst_cons (PST.of (ps_set (i := 6) sc_texts.nd rfl (.inl rfl) (pe_op op_cat (pv 6) (pe_lc (own := [("_law_k", 7)]) (g := gName 7) (tt := tYes) rfl sc_texts.nd (pi_range1 rfl B.range (pa_cons pe_int pa_nil)) (blkOk_by (N := n_texts) (sc := defScope s_texts) (by decide +kernel)) (fun _ _ _ _ _ => pg_name (i := 7) sc_texts.nd rfl (Or.inl rfl)) (fun _ _ _ _ _ => pts_nil) (fun _ _ _ _ _ => (C8.pe_c cE hr (by omega) rfl (pa_cons (pv 0) (pa_cons (pv 3) (pa_cons (pv 5) pa_nil)))))))))
      (psst_cons (PST.of (ps_set (i := 6) sc_texts.nd rfl (.inl rfl) (pe_op op_cat (pv 6) (pe_lst (pa_cons (C8.pe_c cE hr (by omega) rfl (pa_cons (pv 0) (pa_cons (C8.pe_c cE hr (by omega) rfl (pa_cons (pv 0) (pa_cons (pv 4) (pa_cons (pv 5) pa_nil)))) (pa_cons (pv 5) pa_nil)))) (pa_cons (C8.pe_c cL hr (by omega) rfl (pa_cons (pv 0) (pa_cons pe_int pa_nil))) pa_nil))))))
      (psst_cons (PST.of (ps_expr (pe_bm PySem.F.plainAttrs_list PySem.F.slot_list_append PySem.F.type_list_append mt_append (pv 6) (pa_cons (pJoin K pe_str (pe_lc (own := [("_law_k", 7)]) (g := gName 7) (tt := tYes) rfl sc_texts.nd (pi_range1 rfl B.range (pa_cons (C8.pe_c cT hr (by omega) rfl (pa_cons (pv 0) (pa_cons pe_int pa_nil))) pa_nil)) (blkOk_by (N := n_texts) (sc := defScope s_texts) (by decide +kernel)) (fun _ _ _ _ _ => pg_name (i := 7) sc_texts.nd rfl (Or.inl rfl)) (fun _ _ _ _ _ => pts_nil) (fun _ _ _ _ _ => (C8.pe_c cP hr (by omega) rfl (pa_cons (pv 0) (pa_cons pe_str pa_nil)))))) pa_nil))))
      (psst_cons (PST.of (ps_expr (pe_bm PySem.F.plainAttrs_list PySem.F.slot_list_append PySem.F.type_list_append mt_append (pv 6) (pa_cons (C8.pe_c cX hr (by omega) rfl (pa_cons (C8.pe_c cR hr (by omega) rfl (pa_cons (pv 0) (pa_cons (pe_op op_add pe_int (C8.pe_c cT hr (by omega) rfl (pa_cons (pv 0) (pa_cons pe_int pa_nil)))) pa_nil))) pa_nil)) pa_nil))))
      (psst_one (pst_ret (pet_op op_cat (PET.of (pv 6)) (pet_lst (pat_cons (PET.of (pe_op op_mulS (pe_op op_add_str (pv 3) (C8.pe_c cP hr (by omega) rfl (pa_cons (pv 0) (pa_cons pe_str pa_nil)))) (C8.pe_c cB hr (by omega) rfl (pa_cons (pv 0) (pa_cons pe_int (pa_cons pe_int pa_nil)))))) (pat_cons (pet_rep1 (pv 3)) pat_nil))))))))))))), ?_⟩
    have hg : Fine 1220 (text ns1) := fine_text l1
    have ho : Fine 1220 (text ns2) := fine_text l2
    refine ⟨.ref t1, rfl, true, t1, ns1, rfl, .inl (.inl h1), l1, fun H1 s1 => ?_⟩
    refine ⟨.ref t2, rfl, true, t2, ns2, rfl, .inl (.inl (s1 _ _ h2)), l2, fun H2 s2 => ?_⟩
    generalize text ns1 = g at hg
    generalize text ns2 = o at ho
    have s12 := s1.trans s2
    have e1 := s12 _ _ h1
    have e2 := s12 _ _ h2
    have st2 := hs.same s12
    have hc : Fine 20 ("|" : Str) := fine_of (by decide +kernel)
    -- the first list
    refine ⟨.str g, rfl, .str o, rfl, .str g, rfl, _, _, rfl, rfl, bd hg (fine_of (n := 20) (by decide +kernel)) (by omega), .str o, rfl, _, _, rfl, rfl, bd (fine_cat hg (fine_of (n := 20) (by decide +kernel))) ho (by omega), .str g, rfl, _, _, rfl, rfl, bd hg (fine_of (n := 20) (by decide +kernel)) (by omega), .str g, rfl, _, _, rfl, rfl, bd (fine_of (n := 20) (by decide +kernel)) hg (by omega), .ref a, rfl, .ref t1, rfl, a, c, t1, ns1, rfl, e1, l1, st2, fun zb H3 hzb bt3 st3 => ?_⟩
    refine ⟨by show 6 ≤ sizeLine; decide, fun F nF => ?_⟩
    have bt03 := s12.but.trans bt3
    have nF0 := bt03.free st3 nF
    have S : Txs H (upd H3 F (.lst [V.str g, .str o, .str (g ++ "|" ++ o), .str (g ++ "\n"), .str ("\n" ++ g), .str zb])) a c t1 t2 F ns1 ns2 [V.str g, .str o, .str (g ++ "|" ++ o), .str (g ++ "\n"), .str ("\n" ++ g), .str zb] := by
      refine ⟨bt03.new nF, st3.same (same_new nF), same_new nF _ _ (bt3.tup' st2 e1), same_new nF _ _ (bt3.tup' st2 e2), upd_same, fun v hv => ?_, (st3.ne nF).1.symm, nF0, (st3.ne nF).2⟩
      have nl : Fine 20 ("\n" : Str) := fine_of (by decide +kernel)
      rcases List.mem_cons.mp hv with e | hv
      · rw [e]; exact Tx.of hg (by omega)
      rcases List.mem_cons.mp hv with e | hv
      · rw [e]; exact Tx.of ho (by omega)
      rcases List.mem_cons.mp hv with e | hv
      · rw [e]; exact Tx.of (fine_cat (fine_cat hg hc) ho) (by omega)
      rcases List.mem_cons.mp hv with e | hv
      · rw [e]; exact Tx.of (fine_cat hg nl) (by omega)
      rcases List.mem_cons.mp hv with e | hv
      · rw [e]; exact Tx.of (fine_cat nl hg) (by omega)
      · rw [List.mem_singleton.mp hv]; exact Tx.of hzb (by omega)
    have menu : ∀ m : Str, Cst m → 1 ≤ m.length → Fine 100 m := fun m h _ => (fine_of h).mono (by omega)
    -- four bent
    refine ⟨.ref F, rfl, 4, rfl, by decide, by decide, fun D nD => ?_⟩
    obtain ⟨aD, cD⟩ := S.hs.ne nD
    have nD0 := S.bt.free S.hs nD
    have FD : F ≠ D := ne_of_none S.hF nD
    have S1 := S.new (o := .lst []) nD
    refine lc_it walk_range (fun i H4 => Txs H H4 a c t1 t2 F ns1 ns2 _ ∧ ∃ ys : List V, H4 D = some (.lst ys) ∧ ys.length = i ∧ ∀ v ∈ ys, Tx v) ⟨S1, [], upd_same, rfl, fun v hv => by cases hv⟩ (fun _ _ _ _ => trivial) ?_ ?_
    · rintro i x H4 H5 hi ⟨S4, ys, D4, yl, hy⟩ ⟨rfl, rfl⟩
      refine ⟨rfl, yesT ⟨.ref a, rfl, .str g, rfl, .str _, rfl, a, c, g, _, 1220, rfl, hg, by omega, menu _ (by decide +kernel) (by decide +kernel), by decide +kernel, S4.hs, fun r H6 hr6 bt6 hs6 => ?_⟩⟩
      have S6 := S4.but bt6 hs6
      have D6 := bt6 _ _ aD.symm D4
      refine ⟨_, D6, by rw [yl]; exact line_small' (by have : (4 : Int).toNat = 4 := rfl; omega), ?_, ys ++ [.str r], upd_same, by rw [List.length_append, yl]; rfl, fun v hv => ?_⟩
      · have ne : ∀ {t : Addr} {zs : List V}, H5 t = some (.tup zs) → t ≠ D := fun {t zs} e q => by rw [q, D4] at e; cases e
        exact ⟨S6.bt.own nD0, S6.hs.own aD cD, by rw [upd_ne (ne S4.h1)]; exact S6.h1, by rw [upd_ne (ne S4.h2)]; exact S6.h2, by rw [upd_ne FD]; exact S6.hF, S6.hX, S6.aF, S6.nF, S6.cF⟩
      · rcases List.mem_append.mp hv with q | q
        · exact hy v q
        · rw [List.mem_singleton.mp q]; exact Tx.of hr6 (by omega)
    rintro H4 ⟨S4, ys, D4, yl, hy⟩
    have yl4 : ys.length = 4 := yl
    refine txs_cat S4 D4 hy (by rw [yl4]; simp only [List.length_cons, List.length_nil]; omega) fun F2 H5 S5 => ?_
    obtain ⟨xs, S5, xl5⟩ : ∃ xs : List V, Txs H H5 a c t1 t2 F2 ns1 ns2 xs ∧ xs.length = 10 := ⟨_, S5, by rw [List.length_append, yl4]; rfl⟩
    -- bent twice, a drawn text
    refine ⟨.ref F2, rfl, .ref a, rfl, .ref a, rfl, .str o, rfl, .str _, rfl, a, c, o, _, 1220, rfl, ho, by omega, menu _ (by decide +kernel) (by decide +kernel), by decide +kernel, S5.hs, fun r1 H6 hr1 bt6 hs6 => ?_⟩
    refine ⟨.str _, rfl, a, c, r1, _, 4881, rfl, hr1.mono (by omega), by omega, menu _ (by decide +kernel) (by decide +kernel), by decide +kernel, hs6, fun r2 H7 hr2 bt7 hs7 => ?_⟩
    refine ⟨.ref a, rfl, a, c, 8, rfl, by omega, by omega, hs7, fun z8 H8 hz8 bt8 hs8 => ?_⟩
    refine ⟨by show 2 ≤ sizeLine; decide, fun M nM => ?_⟩
    have S8 := ((S5.but bt6 hs6).but bt7 hs7).but bt8 hs8
    refine txs_cat (S8.new (o := .lst [.str r2, .str z8]) nM) upd_same (fun v hv => ?_) (by rw [xl5]; simp only [List.length_cons, List.length_nil]; omega) fun F3 H9 S9 => ?_
    · rcases List.mem_cons.mp hv with e | hv
      · rw [e]; exact Tx.of hr2 (by omega)
      · rw [List.mem_singleton.mp hv]; exact Tx.of hz8 (by show 8 ≤ 90000; omega)
    obtain ⟨xs, S9, xl9⟩ : ∃ xs : List V, Txs H H9 a c t1 t2 F3 ns1 ns2 xs ∧ xs.length = 12 := ⟨_, S9, by rw [List.length_append, xl5]; rfl⟩
    -- signs drawn
    refine ⟨.ref F3, rfl, .inl ⟨rfl, _, SqL.of S9.hF⟩, ⟨_, rfl⟩, .ref a, rfl, a, c, 8, rfl, by omega, S9.hs, fun r H10 h0 h1 bt10 hs10 => ?_⟩
    have S10 := S9.but bt10 hs10
    refine ⟨r, rfl, by omega, by omega, fun D nD => ?_⟩
    obtain ⟨aD, cD⟩ := hs10.ne nD
    have nD0 := S10.bt.free hs10 nD
    have FD : F3 ≠ D := ne_of_none S10.hF nD
    refine lc_it walk_range (fun i H4 => Txs H H4 a c t1 t2 F3 ns1 ns2 xs ∧ ∃ ys : List Str, H4 D = some (.lst (ys.map V.str)) ∧ ys.length = i ∧ ∀ y ∈ ys, Fine 1 y) ⟨S10.new nD, [], upd_same, rfl, fun v hv => by cases hv⟩ (fun _ _ _ _ => trivial) ?_ ?_
    · rintro i x H4 H5 hi ⟨S4, ys, D4, yl, hy⟩ ⟨rfl, rfl⟩
      have hm5 : Fine 20 ("012| " : Str) := fine_of (by decide +kernel)
      refine ⟨rfl, yesT ⟨.ref a, rfl, a, c, .str _, (fun v => ∃ y, v = .str y ∧ Fine 1 y), rfl, S4.hs, .inl ⟨_, rfl, by decide +kernel, Nat.le_trans hm5.len (by omega), fun i d e => ⟨_, rfl, fine_at hm5 e⟩⟩, fun v H6 hv bt6 hs6 => ?_⟩⟩
      obtain ⟨y, rfl, hy1⟩ := hv
      have S6 := S4.but bt6 hs6
      have D6 := bt6 _ _ aD.symm D4
      refine ⟨_, D6, by rw [List.length_map, yl]; exact line_small' (by omega), ?_, ys ++ [y], by rw [upd_same, List.map_append]; rfl, by rw [List.length_append, yl]; rfl, fun v hv => ?_⟩
      · have ne : ∀ {t : Addr} {zs : List V}, H5 t = some (.tup zs) → t ≠ D := fun {t zs} e q => by rw [q, D4] at e; cases e
        exact ⟨S6.bt.own nD0, S6.hs.own aD cD, by rw [upd_ne (ne S4.h1)]; exact S6.h1, by rw [upd_ne (ne S4.h2)]; exact S6.h2, by rw [upd_ne FD]; exact S6.hF, S6.hX, S6.aF, S6.nF, S6.cF⟩
      · rcases List.mem_append.mp hv with q | q
        · exact hy v q
        · rw [List.mem_singleton.mp q]; exact hy1
    rintro H11 ⟨S11, ys, D11, yl, hy⟩
    have hsum := sum_fine 1 ys hy
    refine ⟨_, D, ys, rfl, rfl, .inl (SqL.of D11), by rw [empty_len]; omega, F3, xs, _, rfl, rfl, S11.hF, by rw [xl9]; exact line_small' (by omega), ?_⟩
    have S12 := txs_app S11 (Tx.of (fine_join fine_empty hy) (by omega))
    obtain ⟨xs, S12, xl12⟩ : ∃ xs2 : List V, Txs H (upd H11 F3 (.lst (xs ++ [V.str (Txt.join (Str.ofString "") ys)]))) a c t1 t2 F3 ns1 ns2 xs2 ∧ xs2.length = 13 := ⟨_, S12, by rw [List.length_append, xl9]; rfl⟩
    -- a parting of 17 plots or more
    refine ⟨.ref F3, rfl, .inl ⟨rfl, _, SqL.of S12.hF⟩, .ref a, rfl, .ref a, rfl, a, c, 3, rfl, by omega, S12.hs, fun r H13 h0 h1 bt13 hs13 => ?_⟩
    refine ⟨17, r, rfl, rfl, a, c, (17 + r).toNat, congrArg (fun z => [V.ref a, V.int z]) (show 17 + r = (((17 + r).toNat : Nat) : Int) by omega), by omega, by omega, hs13, fun H14 t ns bt14 hs14 nt et nm nl => ?_⟩
    refine ⟨true, t, ns, rfl, .inl (.inl et), by omega, fun H15 s15 => ?_⟩
    have S15 := ((S12.but bt13 hs13).but bt14 hs14).but s15.but (hs14.same s15)
    refine ⟨F3, xs, _, rfl, rfl, S15.hF, by rw [xl12]; exact line_small' (by omega), ?_⟩
    have S16 := txs_app S15 (Tx.of (fine_text (ns := ns) (by omega)) (by omega))
    obtain ⟨xs, S16, xl16⟩ : ∃ xs2 : List V, Txs H (upd H15 F3 (.lst (xs ++ [V.str (text ns)]))) a c t1 t2 F3 ns1 ns2 xs2 ∧ xs2.length = 14 := ⟨_, S16, by rw [List.length_append, xl12]; rfl⟩
    -- the end
    have hm4 : Fine 20 ("| 1
" : Str) := fine_of (by decide +kernel)
    refine ⟨.ref F3, rfl, .str g, rfl, .ref a, rfl, a, c, .str _, (fun v => ∃ y, v = .str y ∧ Fine 1 y), rfl, S16.hs, .inl ⟨_, rfl, by decide +kernel, Nat.le_trans hm4.len (by omega), fun i d e => ⟨_, rfl, fine_at hm4 e⟩⟩, fun v H17 hv bt17 hs17 => ?_⟩
    obtain ⟨y, rfl, hy1⟩ := hv
    have fgy := fine_cat hg hy1
    refine ⟨_, _, rfl, rfl, bd hg hy1 (by omega), .ref a, rfl, a, c, 2, 50, rfl, by omega, hs17, fun r H18 h0 h1 bt18 hs18 => ?_⟩
    refine ⟨_, r, rfl, rfl, by omega, by omega, by have := fgy.len; omega, fun rs hrs => ?_⟩
    have hrs1 := hrs 1221 fgy
    have hmul : 1221 * r.toNat ≤ 1221 * 50 := Nat.mul_le_mul_left _ (by omega)
    refine ⟨.str g, rfl, g, rfl, brep hg (fine_of (n := 20) (by decide +kernel)) (by omega), by show 2 ≤ sizeLine; decide, fun M nM => ?_⟩
    have S18 := (S16.but bt17 hs17).but bt18 hs18
    refine txs_cat (S18.new nM) upd_same (fun v hv => ?_) (by rw [xl16]; simp only [List.length_cons, List.length_nil]; omega) fun F4 H19 S19 => ?_
    · rcases List.mem_cons.mp hv with e | hv
      · rw [e]; exact Tx.of hrs1 (by omega)
      · rw [List.mem_singleton.mp hv]; exact Tx.of (fine_rep hg (fine_of (n := 20) (by decide +kernel))) (by omega)
    exact q H19 F4 _ S19.bt S19.hs S19.nF S19.hF (by rw [List.length_append, xl16]; simp only [List.length_cons, List.length_nil]; omega) S19.hX
end
end Kw

set_option maxHeartbeats 4000000
/-! M8: the law's own reading of a text. Printed by gen_m8.py. -/
namespace Kw
open PySem PySem.Spec PyProof.Rows L2
open C8 (Cal)
open TL (spl numL numL_len)
theorem eqvAll_ints : ∀ a b : List Int, PyData.eqvAll (a.map PyData.int) (b.map PyData.int) = decide (a = b)
  | [], [] => by simp [PyData.eqvAll]
  | [], _ :: _ => by simp [PyData.eqvAll]
  | _ :: _, [] => by simp [PyData.eqvAll]
  | x :: a, y :: b => by
    have ih := eqvAll_ints a b
    rw [List.map_cons, List.map_cons]
    show (PyData.eqv (.int x) (.int y) && PyData.eqvAll (a.map PyData.int) (b.map PyData.int)) = decide (x :: a = y :: b)
    rw [ih]
    show ((x == y) && decide (a = b)) = _
    by_cases c : x = y
    · subst c; simp
    · have : (x == y) = false := by simp [c]
      rw [this]; simp [c]
theorem eqv_ints (a b : List Int) : PyData.eqv (.list (a.map PyData.int)) (.list (b.map PyData.int)) = decide (a = b) := eqvAll_ints a b
theorem lay_ints : ∀ a : List Int, PyData.canLayAll0 (a.map PyData.int) = true
  | [] => by simp [PyData.canLayAll0]
  | x :: a => by
    have ih := lay_ints a
    simp [PyData.canLayAll0, PyData.canLay0] at ih ⊢
    exact ih
theorem depth_ints : ∀ a : List Int, PyData.depthAll (a.map PyData.int) ≤ 1
  | [] => by simp [PyData.depthAll]
  | x :: a => by
    have ih := depth_ints a
    simp [PyData.depthAll, PyData.depth] at ih ⊢
    omega
theorem shaped_ints (a : List Int) : SeqAt.shaped (.list (a.map PyData.int)) = true := by
  unfold SeqAt.shaped
  have h1 := lay_ints a
  have h2 := depth_ints a
  rw [Bool.and_eq_true]
  refine ⟨by simp [PyData.canLay0, h1], by simp [PyData.depth]; omega⟩
theorem dpAll_ints {K : PySem.W.Frag} {H : Hp} : ∀ a : List Int, DpAll K H (a.map V.int) (a.map PyData.int)
  | [] => .nil
  | x :: a => .cons (.int x) (dpAll_ints a)
/-- lists of texts, one by one -/
structure Strs (H : Hp) (as : List Addr) (W : List (List (List Nat))) : Prop where
  len : as.length = W.length
  at_ : ∀ {j : Nat} {a : Addr} {l : List (List Nat)}, as[j]? = some a → W[j]? = some l → H a = some (.lst ((l.map mk).map V.str))
theorem Strs.same {H H' : Hp} {as : List Addr} {W : List (List (List Nat))} (e : Same H H') (h : Strs H as W) : Strs H' as W := ⟨h.len, fun a b => e _ _ (h.at_ a b)⟩
theorem Strs.but {P : Addr} {H H' : Hp} {as : List Addr} {W : List (List (List Nat))} (n : P ∉ as) (e : But P H H') (h : Strs H as W) : Strs H' as W := ⟨h.len, fun a b => e _ _ (fun q => n (q ▸ get_mem a)) (h.at_ a b)⟩
theorem but_same {P : Addr} {H H1 H2 : Hp} (s : Same H H1) (n : H P = none) (b : But P H1 H2) : Same H H2 := fun a o e => b a o (ne_of_none e n) (s a o e)
theorem Strs.fresh {P : Addr} {H : Hp} {as : List Addr} {W : List (List (List Nat))} (h : Strs H as W) (n : H P = none) : P ∉ as := fun m => by
  obtain ⟨j, hj⟩ := List.getElem?_of_mem m
  have hl : j < W.length := by rw [← h.len]; exact (List.getElem?_eq_some_iff.mp hj).1
  have := h.at_ hj (List.getElem?_eq_getElem hl)
  rw [n] at this; cases this
theorem words_len {t w : List Nat} (h : w ∈ (words t).flatten) : w.length ≤ t.length := by
  obtain ⟨ws, h1, h2⟩ := List.mem_flatten.mp h
  obtain ⟨p, hp, rfl⟩ := List.mem_map.mp h1
  exact Nat.le_trans (spl_each' 32 p h2) (spl_each' 124 t hp)
theorem bar1' : ("|" : Str).length = 1 := by decide +kernel
abbrev vz (w : List Nat) : Int := ((val w : Nat) : Int)
theorem flat_take3 {α : Type} {Z : List (List α)} {i : Nat} {l : List α} (h : Z[i]? = some l) : (Z.take (i + 1)).flatten = (Z.take i).flatten ++ l := by
  rw [List.take_add_one, h, List.flatten_append]
  show _ ++ ([l] : List (List α)).flatten = _
  simp
theorem mem_flat {α : Type} {Z : List (List α)} {i j : Nat} {l : List α} {x : α} (h : Z[i]? = some l) (hx : l[j]? = some x) : x ∈ Z.flatten := List.mem_flatten.mpr ⟨l, get_mem h, get_mem hx⟩
theorem read_bad {t : List Nat} {w : List Nat} (hm : w ∈ (words t).flatten) (hb : ¬ wordOk w) : readL t = none := by
  unfold readL
  refine if_neg fun z => ?_
  have := z.1.2.1 (plotOf w) (by rw [zW_flat]; exact List.mem_map.mpr ⟨w, hm, rfl⟩)
  rw [plotOf_notOk hb] at this
  omega
theorem zs_int' (ns : List Nat) : ns.map nv = (zs ns).map V.int := by rw [List.map_map]; rfl
theorem s5sub {Hm H3 : Hp} {L P S R : Addr} {xs : List V} {ns' : List Int} {m : Nat} (b3 : But P Hm H3) (LP : L ≠ P) (Lm : Hm L = some (.lst xs)) (nS : H3 S = none) (nR : (upd H3 S (.lst (ns'.map V.int))) R = none) :
    (upd (upd H3 S (.lst (ns'.map V.int))) R (.lst (rgV 0 ((m : Nat) : Int)))) L = some (.lst xs) := same_new nR _ _ (same_new nS _ _ (b3 _ _ LP Lm))
theorem vals_len (t : List Nat) : ((words t).flatten.map vz).length = nW t := by rw [List.length_map]; rfl
section
variable {P : Program} {w : World} {K : PySem.W.Frag} {mg : Str → Option Value} {base : Heap}
def spReads : Sp := fun vs H Q _ => ∃ t : List Nat, vs = [.str (mk t)] ∧ Asc t ∧ t.length ≤ 90000 ∧
  (∀ ns, readL t = some ns → ∀ H' p, Same H H' → H p = none → H' p = some (.tup (ns.map nv)) → Q (.ref p) H') ∧ (readL t = none → ∀ H', Same H H' → Q .non H')
theorem ok_reads {f : Addr} {fd : FuncData} {k : Nat} (B : Bl mg) (cX : Cal P w K mg base 2 "_law_partingtext" (spPtext K) []) (F : L2.Fun K "_law_reads" "_law_reads" s_reads f fd) : FnOk P w K mg base L2.CX0 (k + 3) f fd ["_law_text_here"] spReads := by
  refine F.ok sc_reads (fun vs H Q E h => ?_) (fun cdv A outer s H vs Q E hr h => ?_)
  · obtain ⟨t, rfl, _⟩ := h
    rfl
  · obtain ⟨t, rfl, ta, ht, q, qn⟩ := h
    have hu := hr.units
    refine ⟨_, pss_cons (ps_setLc (i := 2) (own := [("_law_lot", 1)]) (g := gName 1) (tt := tYes) (by rfl) sc_reads.nd rfl rfl (sw_true rfl rfl rfl (by decide +kernel)) (piL K (pe_split (pv 0) pe_str)) (blkOk_by (N := n_reads) (sc := defScope s_reads) (by decide +kernel)) (fun _ _ _ _ _ => pg_name (i := 1) sc_reads.nd rfl (Or.inl rfl)) (fun _ _ _ _ _ => pts_nil) (fun _ _ _ _ _ => pe_split (pv 1) pe_str))
      (pss_cons (ps_set (i := 3) sc_reads.nd rfl (.inl rfl) (pe_lst pa_nil))
      (pss_cons (ps_for PassesOwn.never rfl (pi_list (pv 2)) (pg_name (i := 1) sc_reads.nd rfl (.inl rfl)) (pss_one (ps_for PassesOwn.never rfl (pi_list (pv 1)) (pg_name (i := 4) sc_reads.nd rfl (.inl rfl)) (pss_cons (ps_if (PW.pt (pw_or (pt_not (pt_val (pe_m0 PySem.F.slot_str_isdigit PySem.F.type_str_isdigit mt_isdigit (pv 4)))) (pw_or (pt_cmpR op_gt (pe_callB call_len_str (by rfl) B.len boot_len (pa_cons (pv 4) pa_nil)) pe_int (nomark _)) (pw_or1 (pt_cmpR op_ne (pv 4) (pe_callTy call_str_int rfl B.str boot_ty_str (pa_cons (pe_callTy call_int_str rfl B.int boot_ty_int (pa_cons (pv 4) pa_nil)) pa_nil)) (nomark _)))))) (pss_one (ps_ret pe_non)) pss_nil)
      (pss_one (ps_expr (pe_bm PySem.F.plainAttrs_list PySem.F.slot_list_append PySem.F.type_list_append mt_append (pv 3) (pa_cons (pe_callTy call_int_str rfl B.int boot_ty_int (pa_cons (pv 4) pa_nil)) pa_nil))))))))
      (pss_cons (ps_if (PW.pt (pw_or (pt_cmpR op_gt (pe_callB call_len_seq (by rfl) B.len boot_len (pa_cons (pv 3) pa_nil)) pe_int (nomark _)) (pw_or1 (pt_cmpR (op_neD hu) (pe_callB cr_sorted rfl B.sorted boot_sorted (pa_cons (pv 3) pa_nil)) (pe_listRg rfl rfl B.list (prg_1 rfl B.range (pe_callB call_len_seq (by rfl) B.len boot_len (pa_cons (pv 3) pa_nil)))) (nomark _))))) (pss_one (ps_ret pe_non)) pss_nil)
      (pss_cons (ps_setLc (i := 5) (own := [("_law_plot", 6)]) (g := gName 6) (tt := tYes) (by rfl) sc_reads.nd rfl rfl (sw_true rfl rfl rfl (by decide +kernel)) (pi_list (pv 3)) (blkOk_by (N := n_reads) (sc := defScope s_reads) (by decide +kernel)) (fun _ _ _ _ _ => pg_name (i := 6) sc_reads.nd rfl (Or.inl rfl)) (fun _ _ _ _ _ => pts_nil) (fun _ _ _ _ _ => pe_int))
      (pss_cons (ps_for PassesOwn.never rfl (pi_list (pv 2)) (pg_name (i := 1) sc_reads.nd rfl (.inl rfl)) (pss_one (ps_for PassesOwn.never rfl (pi_list (pv 1)) (pg_name (i := 4) sc_reads.nd rfl (.inl rfl)) (pss_one (ps_asg (pe_callB (cr_min rfl) rfl B.min boot_min (pa_cons (pe_lc (own := [("_law_other", 7)]) (g := gName 7) (tt := tYes) rfl sc_reads.nd (pi_list (pv 1)) (blkOk_by (N := n_reads) (sc := defScope s_reads) (by decide +kernel)) (fun _ _ _ _ _ => pg_name (i := 7) sc_reads.nd rfl (Or.inl rfl)) (fun _ _ _ _ _ => pts_nil) (fun _ _ _ _ _ => (pe_callTy call_int_str rfl B.int boot_ty_int (pa_cons (pv 7) pa_nil)))) pa_nil)) (pg_sub (pv 5) (pe_callTy call_int_str rfl B.int boot_ty_int (pa_cons (pv 4) pa_nil)) set_list))))))
      (pss_cons (ps_if (pt_cmpR op_ne (C8.pe_c cX hr (by omega) rfl (pa_cons (pv 5) pa_nil)) (pv 0) (nomark _)) (pss_one (ps_ret pe_non)) pss_nil)
      (pss_one (ps_ret (pe_callTy call_tuple_of rfl B.tuple boot_ty_tuple (pa_cons (pv 5) pa_nil)))))))))), ?_⟩
    have zl : (words t).length = (spl [124] 0 [] t).length := by unfold words; rw [List.length_map]
    have hc1 := spl_count 124 t
    have wcount := words_count t
    -- lots = [lot.split(' ') for lot in text.split('|')]
    refine ⟨.str (mk t), rfl, ⟨_, rfl⟩, mk t, ("|" : Str), rfl, rfl, by rw [bar1']; rfl, ?_, fun L0 nL0 => ?_⟩
    · rw [mk_len]
      exact Nat.le_trans (Nat.add_le_add_right ht 2) (by decide)
    rw [split_bar]
    refine ⟨L0, rfl, ⟨_, SqL.of upd_same⟩, fun L nL => ?_⟩
    have L0L : L0 ≠ L := ne_of_none upd_same nL
    have nLH : H L = none := (same_new nL0).free nL
    refine lc_it (walk_list (xs := ((spl [124] 0 [] t).map mk).map V.str)) (fun i H4 => Same H H4 ∧ H4 L0 = some (.lst (((spl [124] 0 [] t).map mk).map V.str)) ∧ ∃ as, H4 L = some (.lst (as.map V.ref)) ∧ L ∉ as ∧ Strs H4 as ((words t).take i))
      ⟨(same_new nL0).new nL, by rw [upd_ne L0L]; exact upd_same, [], upd_same, by simp, rfl, fun h => by simp at h⟩ (fun i H4 _ ⟨_, l, _⟩ => SqL.of l) ?_ ?_
    · rintro i x H4 H5 hi ⟨s4, L4, as, D4, nas, I4⟩ ⟨rfl, e2⟩
      rw [List.length_map, List.length_map] at hi
      have hp : (spl [124] 0 [] t)[i]? = some (spl [124] 0 [] t)[i] := List.getElem?_eq_getElem hi
      obtain rfl : V.str (mk (spl [124] 0 [] t)[i]) = x := by
        have := show (((spl [124] 0 [] t).map mk).map V.str)[i]? = some x from e2
        rw [List.getElem?_map, List.getElem?_map, hp] at this
        exact Option.some.inj this
      have hpl := spl_each' 124 t (get_mem hp)
      have hz : (words t)[i]? = some (spl [32] 0 [] (spl [124] 0 [] t)[i]) := by
        unfold words
        rw [List.getElem?_map, hp]; rfl
      refine ⟨rfl, yesT ?_⟩
      refine ⟨.str (mk (spl [124] 0 [] t)[i]), rfl, ⟨_, rfl⟩, mk _, (" " : Str), rfl, rfl, by rw [show (" " : Str).length = 1 by decide +kernel]; rfl, ?_, fun A nA => ?_⟩
      · rw [mk_len]
        exact Nat.le_trans (Nat.add_le_add_right (Nat.le_trans hpl ht) 2) (by decide)
      rw [split_sp]
      have LA : L ≠ A := ne_of_none D4 nA
      have s5 := s4.new (o := .lst (((spl [32] 0 [] (spl [124] 0 [] t)[i]).map mk).map V.str)) nA
      refine ⟨_, same_new nA _ _ D4, ?_, s5.own nLH, by rw [upd_ne L0L]; exact same_new nA _ _ L4, as ++ [A], by rw [upd_same, List.map_append]; rfl, ?_, ?_⟩
      · rw [List.length_map, I4.len, List.length_take]
        exact line_small' (by omega)
      · intro m
        rcases List.mem_append.mp m with m | m
        · exact nas m
        · exact LA (List.mem_singleton.mp m)
      · refine ⟨by rw [List.length_append, I4.len, List.take_add_one, hz, List.length_append]; rfl, fun {j a l} x y => ?_⟩
        rw [take_split'' hz] at y
        rcases Nat.lt_or_ge j as.length with c | c
        · rw [List.getElem?_append_left c] at x
          rw [List.getElem?_append_left (by rw [← I4.len]; exact c)] at y
          have n1 : a ≠ L := fun e => nas (e ▸ get_mem x)
          rw [upd_ne n1]
          exact same_new nA _ _ (I4.at_ x y)
        · rw [List.getElem?_append_right c] at x
          rw [List.getElem?_append_right (by rw [← I4.len]; exact c), ← I4.len] at y
          cases hj : j - as.length with
          | zero =>
            rw [hj] at x y
            obtain rfl : A = a := by simpa using x
            obtain rfl : _ = l := by simpa using y
            rw [upd_ne LA.symm]; exact upd_same
          | succ m => rw [hj] at x; simp at x
    rintro H1 ⟨s1, _, as, L1, nas, I1⟩
    rw [List.length_map, List.length_map, ← zl, List.take_length] at I1
    -- plots = []
    refine ⟨by decide, fun P nP => ?_⟩
    have nPH : H P = none := s1.free nP
    have sm : Same H (upd H1 P (.lst [])) := s1.new nP
    have Lm := same_new (o := .lst []) nP _ _ L1
    have Im := I1.same (same_new (o := .lst []) nP)
    have LP : L ≠ P := ne_of_none L1 nP
    have nPas : P ∉ as := I1.fresh nP
    have Pm : (upd H1 P (.lst [])) P = some (.lst []) := upd_same
    generalize upd H1 P (.lst []) = Hm at sm Lm Im Pm
    -- the words, one by one
    refine ⟨.ref L, rfl, L, rfl, ⟨_, SqL.of Lm⟩, ?_⟩
    refine for_it (walk_list (xs := as.map V.ref)) (fun i σ H3 => ∃ y1 y4, σ = [some (.str (mk t)), y1, some (.ref L), some (.ref P), y4, none, none, none] ∧ But P Hm H3 ∧ H3 P = some (.lst ((((words t).take i).flatten.map vz).map V.int)) ∧ ∀ w ∈ ((words t).take i).flatten, wordOk w)
      ⟨none, none, rfl, But.refl P Hm, Pm, fun w hw => by simp at hw⟩ (fun i σ H3 _ ⟨_, _, _, b, _⟩ => SqL.of (b _ _ LP Lm)) ?_ ?_
    · rintro i x σ H3 H4 hi ⟨y1, y4, rfl, b3, P3, ok3⟩ ⟨rfl, e2⟩
      rw [List.length_map] at hi
      have ha : as[i]? = some as[i] := List.getElem?_eq_getElem hi
      have hiW : i < (words t).length := by rw [← Im.len]; exact hi
      have hl : (words t)[i]? = some (words t)[i] := List.getElem?_eq_getElem hiW
      obtain rfl : V.ref as[i] = x := by
        have := show (as.map V.ref)[i]? = some x from e2
        rw [List.getElem?_map, ha] at this
        exact Option.some.inj this
      have hA := Im.at_ ha hl
      have aP : as[i] ≠ P := fun e => nPas (e ▸ get_mem ha)
      refine ⟨.ref as[i], rfl, as[i], rfl, ⟨_, SqL.of (b3 _ _ aP hA)⟩, ?_⟩
      refine for_it (walk_list (xs := ((words t)[i].map mk).map V.str)) (fun j σ H5 => ∃ y4, σ = [some (.str (mk t)), some (.ref as[i]), some (.ref L), some (.ref P), y4, none, none, none] ∧ But P Hm H5 ∧ H5 P = some (.lst (((((words t).take i).flatten ++ (words t)[i].take j).map vz).map V.int)) ∧ ∀ w ∈ ((words t).take i).flatten ++ (words t)[i].take j, wordOk w)
        ⟨y4, rfl, b3, by rw [List.take_zero, List.append_nil]; exact P3, by rw [List.take_zero, List.append_nil]; exact ok3⟩ (fun j σ H5 _ ⟨_, _, b, _⟩ => SqL.of (b _ _ aP hA)) ?_ ?_
      · rintro j x σ H5 H6 hj ⟨y4, rfl, b5, P5, ok5⟩ ⟨rfl, e3⟩
        rw [List.length_map, List.length_map] at hj
        have hw : (words t)[i][j]? = some (words t)[i][j] := List.getElem?_eq_getElem hj
        obtain rfl : V.str (mk (words t)[i][j]) = x := by
          have := show (((words t)[i].map mk).map V.str)[j]? = some x from e3
          rw [List.getElem?_map, List.getElem?_map, hw] at this
          exact Option.some.inj this
        have wm : (words t)[i][j] ∈ (words t).flatten := mem_flat hl hw
        have wa : Asc (words t)[i][j] := words_asc ta (get_mem hl) (get_mem hw)
        have wlen : (words t)[i][j].length ≤ 90000 := Nat.le_trans (words_len wm) ht
        generalize hwd : (words t)[i][j] = wd at hw wm wa wlen
        have s5 := but_same sm nPH b5
        have stop : ¬ wordOk wd → Q .non H6 := fun hb => qn (read_bad wm hb) H6 s5
        refine ⟨.str (mk wd), rfl, ⟨_, rfl⟩, mk wd, rfl, rfl, trivial, _, rfl, ?_⟩
        by_cases c1 : Txt.isdigit (mk wd) = true
        · rw [c1]
          obtain ⟨d1, d2⟩ := (isdigit_asc wa).mp c1
          refine iteF ⟨.str (mk wd), rfl, mk wd, rfl, by rw [mk_len]; exact Nat.le_trans wlen (by decide), _, 2, rfl, rfl, _, rfl, ?_⟩
          rw [mk_len]
          by_cases c2 : ((wd.length : Nat) : Int) > 2
          · rw [decide_eq_true c2]
            exact iteT (iteT (stop fun ok => by have := wordOk_len ok; omega))
          · rw [decide_eq_false c2]
            have l2 : wd.length ≤ 2 := by omega
            have hint := int_of d1 d2 l2
            have v100 := val_small l2 d2
            have hsl : (mk wd).length ≤ 640 := by rw [mk_len]; omega
            refine iteF ⟨.str (mk wd), rfl, .str (mk wd), rfl, mk wd, _, rfl, hint, hsl, _, rfl, log_small (by omega), rfl, _, rfl, ?_⟩
            rw [str_num]
            by_cases c3 : wd = numL (val wd)
            · have c3' : V.str (mk wd) = V.str (mk (numL (val wd))) := by rw [← c3]
              rw [decide_eq_true c3']
              have wok : wordOk wd := ⟨c3, v100⟩
              refine iteF ⟨.ref P, rfl, .inl ⟨rfl, _, SqL.of P5⟩, .str (mk wd), rfl, mk wd, _, rfl, hint, hsl, P, _, _, rfl, rfl, P5, ?_, some (.str (mk wd)), rfl, b5.at, ?_, fun w hw2 => ?_⟩
              · rw [List.length_map, List.length_map, List.length_append, List.length_take]
                have e1 := congrArg List.length (congrArg List.flatten (List.take_append_drop i (words t)))
                rw [List.flatten_append, List.length_append] at e1
                have e2 : (words t)[i].length ≤ ((words t).drop i).flatten.length := by
                  rw [List.drop_eq_getElem_cons hiW, List.flatten_cons, List.length_append]
                  exact Nat.le_add_right _ _
                exact line_small' (by omega)
              · rw [upd_same, take_split'' hw]
                simp only [List.map_append, List.map_cons, List.map_nil, List.append_assoc]
              · rw [take_split'' hw, ← List.append_assoc] at hw2
                rcases List.mem_append.mp hw2 with m | m
                · exact ok5 w m
                · rw [List.mem_singleton.mp m]; exact wok
            · have c3' : ¬ V.str (mk wd) = V.str (mk (numL (val wd))) := fun e => c3 (mk_inj (V.str.inj e))
              rw [decide_eq_false c3']
              refine iteT (stop fun ok => c3 ok.1)
        · rw [Bool.not_eq_true] at c1
          rw [c1]
          exact iteT (iteT (stop fun ok => by
            have := (isdigit_asc wa).mpr (wordOk_dig ok)
            rw [c1] at this; cases this))
      · rintro σ H5 ⟨y4, rfl, b5, P5, ok5⟩
        rw [List.length_map, List.length_map, List.take_length] at P5 ok5
        exact ⟨some (.ref as[i]), y4, rfl, b5, by rw [flat_take3 hl]; exact P5, by rw [flat_take3 hl]; exact ok5⟩
    · rintro σ H3 ⟨y1, y4, rfl, b3, P3, ok3⟩
      rw [List.length_map, Im.len, List.take_length] at P3 ok3
      have s3 := but_same sm nPH b3
      have hlen := vals_len t
      have wl2 : (words t).flatten.length = nW t := rfl
      -- too many plots, or not all of them
      refine ⟨.ref P, rfl, P, _, rfl, .inl (SqL.of P3), _, 16, rfl, rfl, _, rfl, ?_⟩
      rw [List.length_map, hlen]
      by_cases c16 : ((nW t : Nat) : Int) > 16
      · rw [decide_eq_true c16]
        exact iteT (iteT (qn (by unfold readL; exact if_neg fun z => by have := z.1.1; omega) H3 s3))
      rw [decide_eq_false c16]
      have n16 : nW t ≤ 16 := by omega
      refine iteF ⟨.ref P, rfl, P, (words t).flatten.map vz, rfl, SqL.of P3, by rw [hlen]; omega, fun ns' S hp hs' nS => ?_⟩
      have P4 := same_new (o := .lst (ns'.map V.int)) nS _ _ P3
      refine ⟨.ref P, rfl, P, _, rfl, .inl (SqL.of P4), _, rfl, RgOk.of_le (by omega) (by rw [List.length_map, hlen]; omega) (by omega) (by omega), fun R nR => ?_⟩
      have S5 := same_new (o := .lst (rgV 0 (((((words t).flatten.map vz).map V.int).length : Nat) : Int))) nR _ _ (upd_same (H := H3) (a := S) (o := .lst (ns'.map V.int)))
      refine ⟨.list (ns'.map PyData.int), .list (((List.range (nW t)).map fun k : Nat => (k : Int)).map PyData.int), .lst (SqL.of S5) (dpAll_ints _), .lst (SqL.of (xs := (((List.range (nW t)).map fun k : Nat => (k : Int)).map V.int)) ?_) (dpAll_ints _), shaped_ints _, shaped_ints _, _, rfl, ?_⟩
      · rw [upd_same, List.length_map, hlen, rgV0, List.map_map]; rfl
      rw [eqv_ints]
      have hso := sorted_ok hp hs'
      rw [hlen] at hso
      have s5 := (s3.new (o := .lst (ns'.map V.int)) nS).new (o := .lst (rgV 0 (((((words t).flatten.map vz).map V.int).length : Nat) : Int))) nR
      have hvo := vals_ok (l := (words t).flatten) (nW t) n16 ok3
      by_cases cno : ¬ okZ (nW t) ((words t).flatten.map vz)
      · rw [decide_eq_false fun e => cno (hso.mp e)]
        refine iteT (qn ?_ _ s5)
        unfold readL
        exact if_neg fun z => cno (hvo.mpr (by have := z.1.2; rw [zW_flat] at this; exact this))
      have cok := Classical.not_not.mp cno
      rw [decide_eq_true (hso.mpr cok)]
      refine iteF ?_
      have okz : okZ (nW t) (zW t).flatten := by rw [zW_flat]; exact hvo.mp cok
      have okt : okT t := ⟨n16, okz⟩
      have veq := vals_eq (l := (words t).flatten) (n := nW t) (by rw [zW_flat] at okz; exact okz)
      -- names = [0 for plot in plots]
      have P5 : (upd (upd H3 S (.lst (ns'.map V.int))) R (.lst (rgV 0 (((((words t).flatten.map vz).map V.int).length : Nat) : Int)))) P = some (.lst (((words t).flatten.map vz).map V.int)) := same_new nR _ _ P4
      have L5 := s5sub b3 LP Lm nS nR (ns' := ns') (m := ((((words t).flatten.map vz).map V.int).length : Nat))
      have I5 : Strs (upd (upd H3 S (.lst (ns'.map V.int))) R (.lst (rgV 0 (((((words t).flatten.map vz).map V.int).length : Nat) : Int)))) as (words t) := ((Im.but nPas b3).same (same_new nS)).same (same_new nR)
      generalize upd (upd H3 S (.lst (ns'.map V.int))) R (.lst (rgV 0 (((((words t).flatten.map vz).map V.int).length : Nat) : Int))) = H5 at s5 P5 L5 I5
      refine ⟨.ref P, rfl, P, rfl, ⟨_, SqL.of P5⟩, fun N nN => ?_⟩
      have nNH : H N = none := s5.free nN
      refine lc_it (walk_list (xs := ((words t).flatten.map vz).map V.int)) (fun i H4 => Same H5 H4 ∧ H4 N = some (.lst ((List.replicate i (0 : Int)).map V.int))) ⟨same_new nN, upd_same⟩ (fun i H4 _ ⟨s, _⟩ => SqL.of (s _ _ P5)) ?_ ?_
      · rintro i x H4 H6 hi ⟨s4, N4⟩ ⟨rfl, e2⟩
        rw [List.length_map, hlen] at hi
        refine ⟨rfl, yesT ⟨_, N4, by rw [List.length_map, List.length_replicate]; exact line_small' (by omega), s4.own nN, ?_⟩⟩
        rw [upd_same, List.replicate_succ', List.map_append]; rfl
      rintro H6 ⟨s6, N6⟩
      rw [List.length_map, hlen] at N6
      have L6 := s6 _ _ L5
      have I6 := I5.same s6
      have LN : L ≠ N := ne_of_none L5 nN
      have nNas : N ∉ as := I5.fresh nN
      have sH6 := s5.trans s6
      -- names[int(word)] = min([int(other) for other in lot])
      refine ⟨.ref L, rfl, L, rfl, ⟨_, SqL.of L6⟩, ?_⟩
      refine for_it (walk_list (xs := as.map V.ref)) (fun i σ H7 => ∃ y1 y4, σ = [some (.str (mk t)), y1, some (.ref L), some (.ref P), y4, some (.ref N), none, none] ∧ But N H6 H7 ∧ ∃ nz : List Int, H7 N = some (.lst (nz.map V.int)) ∧ nz.length = nW t ∧ ∀ w ∈ ((words t).take i).flatten, nz[val w]? = ((nameT t)[val w]?).map fun k : Nat => (k : Int))
        ⟨_, _, rfl, But.refl N H6, _, N6, List.length_replicate .., fun w hw => by simp at hw⟩ (fun i σ H7 _ ⟨_, _, _, b, _⟩ => SqL.of (b _ _ LN L6)) ?_ ?_
      · rintro i x σ H7 H8 hi ⟨y1, y4, rfl, b7, nz, N7, nzl, hnz⟩ ⟨rfl, e2⟩
        rw [List.length_map] at hi
        have ha : as[i]? = some as[i] := List.getElem?_eq_getElem hi
        have hiW : i < (words t).length := by rw [← I6.len]; exact hi
        have hl : (words t)[i]? = some (words t)[i] := List.getElem?_eq_getElem hiW
        obtain rfl : V.ref as[i] = x := by
          have := show (as.map V.ref)[i]? = some x from e2
          rw [List.getElem?_map, ha] at this
          exact Option.some.inj this
        have hA := I6.at_ ha hl
        have aN : as[i] ≠ N := fun e => nNas (e ▸ get_mem ha)
        generalize hws : (words t)[i] = ws at hl hA
        generalize as[i] = A at ha hA aN
        refine ⟨.ref A, rfl, A, rfl, ⟨_, SqL.of (b7 _ _ aN hA)⟩, ?_⟩
        refine for_it (walk_list (xs := (ws.map mk).map V.str)) (fun j σ H9 => ∃ y4, σ = [some (.str (mk t)), some (.ref A), some (.ref L), some (.ref P), y4, some (.ref N), none, none] ∧ But N H6 H9 ∧ ∃ nz : List Int, H9 N = some (.lst (nz.map V.int)) ∧ nz.length = nW t ∧ ∀ w ∈ ((words t).take i).flatten ++ ws.take j, nz[val w]? = ((nameT t)[val w]?).map fun k : Nat => (k : Int))
          ⟨y4, rfl, b7, nz, N7, nzl, by rw [List.take_zero, List.append_nil]; exact hnz⟩ (fun j σ H9 _ ⟨_, _, b, _⟩ => SqL.of (b _ _ aN hA)) ?_ ?_
        · rintro j x σ H9 H10 hj ⟨y4, rfl, b9, nz, N9, nzl, hnz⟩ ⟨rfl, e3⟩
          rw [List.length_map, List.length_map] at hj
          have hw : ws[j]? = some ws[j] := List.getElem?_eq_getElem hj
          obtain rfl : V.str (mk ws[j]) = x := by
            have := show ((ws.map mk).map V.str)[j]? = some x from e3
            rw [List.getElem?_map, List.getElem?_map, hw] at this
            exact Option.some.inj this
          generalize ws[j] = wd at hw
          have wm : ∀ {u : List Nat}, u ∈ ws → wordOk u := fun {u} hu => ok3 u (List.mem_flatten.mpr ⟨ws, get_mem hl, hu⟩)
          have hint : ∀ {u : List Nat}, u ∈ ws → intText? (mk u) = some (vz u) ∧ (mk u).length ≤ 640 := fun {u} hu => by
            have ok := wm hu
            obtain ⟨d1, d2⟩ := wordOk_dig ok
            have l2 := wordOk_len ok
            exact ⟨int_of d1 d2 l2, by rw [mk_len]; omega⟩
          have A9 := b9 _ _ aN hA
          -- the others of the lot
          refine ⟨.ref A, rfl, A, rfl, ⟨_, SqL.of A9⟩, fun D nD => ?_⟩
          have ND : N ≠ D := ne_of_none N9 nD
          refine lc_it (walk_list (xs := (ws.map mk).map V.str)) (fun m H4 => Same H10 H4 ∧ H4 D = some (.lst (((ws.take m).map vz).map V.int))) ⟨same_new nD, upd_same⟩ (fun m H4 _ ⟨s, _⟩ => SqL.of (s _ _ A9)) ?_ ?_
          · rintro m x H4 H11 hm ⟨s4, D4⟩ ⟨rfl, e4⟩
            rw [List.length_map, List.length_map] at hm
            have hu : ws[m]? = some ws[m] := List.getElem?_eq_getElem hm
            obtain rfl : V.str (mk ws[m]) = x := by
              have := show ((ws.map mk).map V.str)[m]? = some x from e4
              rw [List.getElem?_map, List.getElem?_map, hu] at this
              exact Option.some.inj this
            obtain ⟨h1, h2⟩ := hint (get_mem hu)
            refine ⟨rfl, yesT ⟨.str _, rfl, mk _, _, rfl, h1, h2, _, D4, ?_, s4.own nD, ?_⟩⟩
            · rw [List.length_map, List.length_map, List.length_take]
              have e5 : ws.length ≤ (words t).flatten.length := by
                have := flat_take3 hl
                have e6 := congrArg List.length this
                rw [List.length_append] at e6
                have e7 := congrArg List.length (congrArg List.flatten (List.take_append_drop (i + 1) (words t)))
                rw [List.flatten_append, List.length_append] at e7
                omega
              exact line_small' (by omega)
            · rw [upd_same, take_split'' hu, List.map_append, List.map_append]; rfl
          · rintro H4 ⟨s4, D4⟩
            rw [List.length_map, List.length_map, List.take_length] at D4
            have N4 := s4 _ _ N9
            have hpos : 0 < (ws.map vz).length := by
              rw [List.length_map]
              exact List.length_pos_iff.mpr (words_ne (get_mem hl))
            refine ⟨D, ws.map vz, rfl, SqL.of D4, hpos, fun mn hmn hmin => ?_⟩
            -- where it goes
            obtain ⟨h1, h2⟩ := hint (get_mem hw)
            have wmem : wd ∈ (words t).flatten := List.mem_flatten.mpr ⟨ws, get_mem hl, get_mem hw⟩
            have vb : val wd < nW t := by
              have : (0 : Int) ≤ ((val wd : Nat) : Int) ∧ ((val wd : Nat) : Int) < ((nW t : Nat) : Int) := cok.1 (vz wd) (List.mem_map.mpr ⟨wd, wmem, rfl⟩)
              omega
            have lz : (zW t)[i]? = some (ws.map vz) := by
              unfold zW
              rw [List.getElem?_map, hl]
              refine congrArg some (List.map_congr_left fun u hu => ?_)
              have um : u ∈ (words t).flatten := List.mem_flatten.mpr ⟨ws, get_mem hl, hu⟩
              have := okz.1 (plotOf u) (by rw [zW_flat]; exact List.mem_map.mpr ⟨u, um, rfl⟩)
              exact (plotOf_pos this.1).2.2
            have nm := name_min (L := zW t) (by rw [zW_len]; exact okz) lz (z := vz wd) (m := mn) (List.mem_map.mpr ⟨wd, get_mem hw, rfl⟩) hmn hmin
            rw [zW_len] at nm
            have mpos : 0 ≤ mn := by
              obtain ⟨u, _, rfl⟩ := List.mem_map.mp hmn
              show (0 : Int) ≤ ((val u : Nat) : Int)
              omega
            refine ⟨.ref N, rfl, .str (mk wd), rfl, mk wd, _, rfl, h1, h2, N, _, _, val wd, rfl, rfl, N4, ?_, some (.str (mk wd)), rfl, (b9.trans s4.but).at, nz.set (val wd) mn, ?_, by rw [List.length_set]; exact nzl, fun u hu => ?_⟩
            · rw [List.length_map, nzl]
              unfold ixN
              rw [if_pos (show (0 : Int) ≤ ((val wd : Nat) : Int) by omega), if_pos (show (((val wd : Nat) : Int)) < ((nW t : Nat) : Int) by omega)]
              exact congrArg some (show (((val wd : Nat) : Int)).toNat = val wd by omega)
            · rw [upd_same, List.map_set]
            · by_cases ce : val u = val wd
              · rw [ce, List.getElem?_set_self (by omega)]
                have nm' : (nameT t)[val wd]? = some mn.toNat := nm
                rw [nm']
                show some mn = some ((mn.toNat : Nat) : Int)
                rw [Int.toNat_of_nonneg mpos]
              · rw [List.getElem?_set_ne (Ne.symm ce)]
                rw [take_split'' hw, ← List.append_assoc] at hu
                rcases List.mem_append.mp hu with m | m
                · exact hnz u m
                · rw [List.mem_singleton.mp m] at ce; exact absurd rfl ce
        · rintro σ H9 ⟨y4, rfl, b9, nz, N9, nzl, hnz⟩
          rw [List.length_map, List.length_map, List.take_length] at hnz
          exact ⟨some (.ref A), y4, rfl, b9, nz, N9, nzl, by rw [flat_take3 hl]; exact hnz⟩
      · rintro σ H7 ⟨y1, y4, rfl, b7, nz, N7, nzl, hnz⟩
        rw [List.length_map, I6.len, List.take_length] at hnz
        have enz : nz = zs (nameT t) := by
          refine List.ext_getElem? fun p => ?_
          by_cases hp : p < nW t
          · have hm := okZ_all cok hlen hp
            obtain ⟨u, hu, hv⟩ := List.mem_map.mp hm
            have e : val u = p := by have : ((val u : Nat) : Int) = (p : Int) := hv; omega
            have := hnz u hu
            rw [e] at this
            rw [this, List.getElem?_map]
          · rw [List.getElem?_eq_none (by omega), List.getElem?_eq_none (by rw [List.length_map, nameT_len]; omega)]
        have s7 := but_same sH6 nNH b7
        rw [enz, ← zs_int'] at N7
        refine ⟨.ref N, rfl, false, N, nameT t, rfl, SqL.of N7, by rw [nameT_len]; omega, fun H8 s8 => ?_⟩
        have s78 := s7.trans s8
        refine ⟨.str (mk t), rfl, rfl, _, rfl, ?_⟩
        by_cases ce : textL (nameT t) = t
        · have e1 : text (nameT t) = mk t := congrArg mk ce
          rw [e1, decide_eq_true rfl]
          refine iteF ⟨.ref N, rfl, N, _, rfl, .inl ⟨SqL.of (s8 _ _ N7), fun p np => ?_⟩⟩
          exact q (nameT t) (by unfold readL; rw [if_pos ⟨okt, ce⟩]) _ p (s78.new np) (s78.free np) upd_same
        · have e1 : ¬ (V.str (text (nameT t)) = V.str (mk t)) := fun e => ce (mk_inj (V.str.inj e))
          rw [decide_eq_false e1]
          exact iteT (qn (by unfold readL; rw [if_neg fun z => ce z.2]) H8 s78)
end
end Kw

set_option maxHeartbeats 4000000
/-! M9: the law's comparison of data. Printed by gen_m9.py. -/
namespace Kw
open PySem PySem.Spec PyProof.Rows L2
open C8 (Cal)
/-- one whole number, one text, twice -/
def Flat (x y : V) : Prop := (∃ i : Int, x = .int i ∧ y = .int i) ∨ (∃ s : Str, x = .str s ∧ y = .str s)
/-- the same data, up to n levels -/
def SmD (H : Hp) : Nat → V → V → Prop
  | 0, x, y => Flat x y
  | n + 1, x, y => Flat x y ∨ ∃ (a b : Addr) (xs ys : List V), x = .ref a ∧ y = .ref b ∧ ((H a = some (.tup xs) ∧ H b = some (.tup ys)) ∨ (H a = some (.lst xs) ∧ H b = some (.lst ys))) ∧ xs.length = ys.length ∧ xs.length ≤ 1000 ∧
      ∀ (i : Nat) (u v : V), xs[i]? = some u → ys[i]? = some v → SmD H n u v
theorem SmD.flat {H : Hp} {x y : V} (h : Flat x y) : ∀ n, SmD H n x y
  | 0 => h
  | _ + 1 => .inl h
section
variable {P : Program} {w : World} {K : PySem.W.Frag} {mg : Str → Option Value} {base : Heap}
def spSame (n : Nat) : Sp := fun vs H Q _ => ∃ x y : V, vs = [x, y] ∧ SmD H n x y ∧ Q (.bl true) H
theorem ok_same0 {f : Addr} {fd : FuncData} {k : Nat} (B : Bl mg) (F : L2.Fun K "_law_same" "_law_same" s_same f fd) : FnOk P w K mg base L2.CX0 (k + 1) f fd ["_law_left", "_law_right"] (spSame 0) := by
  refine F.ok sc_same (fun vs H Q E h => ?_) (fun cdv A outer s H vs Q E hr h => ?_)
  · obtain ⟨x, y, rfl, _⟩ := h
    rfl
  · obtain ⟨x, y, rfl, hs, q⟩ := h
    refine ⟨_, pss_cons (ps_if (pt_cmpR op_isN (pv 1) pe_non (nomark _)) pss_never pss_nil)
      (pss_cons (ps_if (pt_val (pe_callB call_isi rfl B.isi boot_isi (pa_cons (pv 1) (pa_cons (pe_bltn rfl B.bool boot_ty_bool (rty _)) pa_nil)))) pss_never pss_nil)
      (pss_cons (ps_if (pt_val (pe_callB call_isi rfl B.isi boot_isi (pa_cons (pv 1) (pa_cons (pe_bltn rfl B.int boot_ty_int (rty _)) pa_nil)))) (pss_one (ps_ret (pe_and (pe_callB call_isi rfl B.isi boot_isi (pa_cons (pv 0) (pa_cons (pe_bltn rfl B.int boot_ty_int (rty _)) pa_nil))) (pe_and (pe_not (pe_callB call_isi rfl B.isi boot_isi (pa_cons (pv 0) (pa_cons (pe_bltn rfl B.bool boot_ty_bool (rty _)) pa_nil)))) (pe_one (pe_cmpR op_eq (pv 0) (pv 1) (nomark _))))))) pss_nil)
      (pss_cons (ps_if (pt_val (pe_callB call_isi rfl B.isi boot_isi (pa_cons (pv 1) (pa_cons (pe_bltn rfl B.str boot_ty_str (rty _)) pa_nil)))) (pss_one (ps_ret (pe_and (pe_callB call_isi rfl B.isi boot_isi (pa_cons (pv 0) (pa_cons (pe_bltn rfl B.str boot_ty_str (rty _)) pa_nil))) (pe_one (pe_cmpR op_eq (pv 0) (pv 1) (nomark _)))))) pss_nil)
      (pss_cons (ps_if (pt_val (pe_callB call_isi rfl B.isi boot_isi (pa_cons (pv 1) (pa_cons (pe_bltn rfl B.tuple boot_ty_tuple (rty _)) pa_nil)))) (pss_one (ps_if (PW.pt (pw_or (pt_not (pt_val (pe_callB call_isi rfl B.isi boot_isi (pa_cons (pv 0) (pa_cons (pe_bltn rfl B.tuple boot_ty_tuple (rty _)) pa_nil))))) (pw_or1 (pt_cmpR op_ne (pe_callB call_len_seq (by rfl) B.len boot_len (pa_cons (pv 0) pa_nil)) (pe_callB call_len_seq (by rfl) B.len boot_len (pa_cons (pv 1) pa_nil)) (nomark _))))) pss_never pss_nil)) (pss_one (ps_if (PW.pt (pw_or (pt_not (pt_val (pe_callB call_isi rfl B.isi boot_isi (pa_cons (pv 1) (pa_cons (pe_bltn rfl B.list boot_ty_list (rty _)) pa_nil))))) (pw_or (pt_not (pt_val (pe_callB call_isi rfl B.isi boot_isi (pa_cons (pv 0) (pa_cons (pe_bltn rfl B.list boot_ty_list (rty _)) pa_nil))))) (pw_or1 (pt_cmpR op_ne (pe_callB call_len_seq (by rfl) B.len boot_len (pa_cons (pv 0) pa_nil)) (pe_callB call_len_seq (by rfl) B.len boot_len (pa_cons (pv 1) pa_nil)) (nomark _)))))) pss_never pss_nil)))
      (pss_never))))), ?_⟩
    rcases hs with ⟨i, rfl, rfl⟩ | ⟨z, rfl, rfl⟩
    · skip
      refine ⟨.int i, rfl, rfl, _, rfl, ?_⟩
      rw [decide_eq_false (fun e => by cases e)]
      refine iteF ⟨.int i, rfl, .int i, .ty "bool", .type "int", .type "bool", false, rfl, .ty _, .base (.int i), kit_ty (by decide +kernel), false, rfl, iteF ?_⟩
      refine ⟨.int i, rfl, .int i, .ty "int", .type "int", .type "int", true, rfl, .ty _, .base (.int i), kit_ty (by decide +kernel), true, rfl, iteT ?_⟩
      refine ⟨.int i, rfl, .int i, .ty "int", .type "int", .type "int", true, rfl, .ty _, .base (.int i), kit_ty (by decide +kernel), true, rfl, iteT ?_⟩
      refine ⟨.int i, rfl, .int i, .ty "bool", .type "int", .type "bool", false, rfl, .ty _, .base (.int i), kit_ty (by decide +kernel), false, rfl, true, rfl, iteT ?_⟩
      refine ⟨.int i, rfl, .int i, rfl, rfl, ?_⟩
      rw [decide_eq_true rfl]
      exact q
    · skip
      refine ⟨.str z, rfl, rfl, _, rfl, ?_⟩
      rw [decide_eq_false (fun e => by cases e)]
      refine iteF ⟨.str z, rfl, .str z, .ty "bool", .type "str", .type "bool", false, rfl, .ty _, .base (.str z), kit_ty (by decide +kernel), false, rfl, iteF ?_⟩
      refine ⟨.str z, rfl, .str z, .ty "int", .type "str", .type "int", false, rfl, .ty _, .base (.str z), kit_ty (by decide +kernel), false, rfl, iteF ?_⟩
      refine ⟨.str z, rfl, .str z, .ty "str", .type "str", .type "str", true, rfl, .ty _, .base (.str z), kit_ty (by decide +kernel), true, rfl, iteT ?_⟩
      refine ⟨.str z, rfl, .str z, .ty "str", .type "str", .type "str", true, rfl, .ty _, .base (.str z), kit_ty (by decide +kernel), true, rfl, iteT ?_⟩
      refine ⟨.str z, rfl, .str z, rfl, rfl, ?_⟩
      rw [decide_eq_true rfl]
      exact q
theorem ok_sameS {f : Addr} {fd : FuncData} {k n : Nat} (B : Bl mg) (cS : Cal P w K mg base (n + 1) "_law_same" (spSame n) []) (F : L2.Fun K "_law_same" "_law_same" s_same f fd) : FnOk P w K mg base L2.CX0 (k + n + 2) f fd ["_law_left", "_law_right"] (spSame (n + 1)) := by
  refine F.ok sc_same (fun vs H Q E h => ?_) (fun cdv A outer s H vs Q E hr h => ?_)
  · obtain ⟨x, y, rfl, _⟩ := h
    rfl
  · obtain ⟨x, y, rfl, hs, q⟩ := h
    refine ⟨_, pss_cons (ps_if (pt_cmpR op_isN (pv 1) pe_non (nomark _)) pss_never pss_nil)
      (pss_cons (ps_if (pt_val (pe_callB call_isi rfl B.isi boot_isi (pa_cons (pv 1) (pa_cons (pe_bltn rfl B.bool boot_ty_bool (rty _)) pa_nil)))) pss_never pss_nil)
      (pss_cons (ps_if (pt_val (pe_callB call_isi rfl B.isi boot_isi (pa_cons (pv 1) (pa_cons (pe_bltn rfl B.int boot_ty_int (rty _)) pa_nil)))) (pss_one (ps_ret (pe_and (pe_callB call_isi rfl B.isi boot_isi (pa_cons (pv 0) (pa_cons (pe_bltn rfl B.int boot_ty_int (rty _)) pa_nil))) (pe_and (pe_not (pe_callB call_isi rfl B.isi boot_isi (pa_cons (pv 0) (pa_cons (pe_bltn rfl B.bool boot_ty_bool (rty _)) pa_nil)))) (pe_one (pe_cmpR op_eq (pv 0) (pv 1) (nomark _))))))) pss_nil)
      (pss_cons (ps_if (pt_val (pe_callB call_isi rfl B.isi boot_isi (pa_cons (pv 1) (pa_cons (pe_bltn rfl B.str boot_ty_str (rty _)) pa_nil)))) (pss_one (ps_ret (pe_and (pe_callB call_isi rfl B.isi boot_isi (pa_cons (pv 0) (pa_cons (pe_bltn rfl B.str boot_ty_str (rty _)) pa_nil))) (pe_one (pe_cmpR op_eq (pv 0) (pv 1) (nomark _)))))) pss_nil)
      (pss_cons (ps_if (pt_val (pe_callB call_isi rfl B.isi boot_isi (pa_cons (pv 1) (pa_cons (pe_bltn rfl B.tuple boot_ty_tuple (rty _)) pa_nil)))) (pss_one (ps_if (PW.pt (pw_or (pt_not (pt_val (pe_callB call_isi rfl B.isi boot_isi (pa_cons (pv 0) (pa_cons (pe_bltn rfl B.tuple boot_ty_tuple (rty _)) pa_nil))))) (pw_or1 (pt_cmpR op_ne (pe_callB call_len_seq (by rfl) B.len boot_len (pa_cons (pv 0) pa_nil)) (pe_callB call_len_seq (by rfl) B.len boot_len (pa_cons (pv 1) pa_nil)) (nomark _))))) pss_never pss_nil)) (pss_one (ps_if (PW.pt (pw_or (pt_not (pt_val (pe_callB call_isi rfl B.isi boot_isi (pa_cons (pv 1) (pa_cons (pe_bltn rfl B.list boot_ty_list (rty _)) pa_nil))))) (pw_or (pt_not (pt_val (pe_callB call_isi rfl B.isi boot_isi (pa_cons (pv 0) (pa_cons (pe_bltn rfl B.list boot_ty_list (rty _)) pa_nil))))) (pw_or1 (pt_cmpR op_ne (pe_callB call_len_seq (by rfl) B.len boot_len (pa_cons (pv 0) pa_nil)) (pe_callB call_len_seq (by rfl) B.len boot_len (pa_cons (pv 1) pa_nil)) (nomark _)))))) pss_never pss_nil)))
      (pss_cons (ps_for PassesOwn.never rfl (pi_range1 rfl B.range (pa_cons (pe_callB call_len_seq (by rfl) B.len boot_len (pa_cons (pv 1) pa_nil)) pa_nil)) (pg_name (i := 2) sc_same.nd rfl (.inl rfl)) (pss_one (ps_if (pt_not (pt_val (C8.pe_c cS hr (by omega) rfl (pa_cons (pe_ix ix_seq (pv 0) (pv 2) fun _ _ => rfl) (pa_cons (pe_ix ix_seq (pv 1) (pv 2) fun _ _ => rfl) pa_nil))))) pss_never pss_nil)))
      (pss_one (ps_ret pe_bl))))))), ?_⟩
    rcases hs with (⟨i, rfl, rfl⟩ | ⟨z, rfl, rfl⟩) | ⟨a, b, xs, ys, rfl, rfl, (⟨ha, hb⟩ | ⟨ha, hb⟩), hl, hl2, hall⟩
    · skip
      refine ⟨.int i, rfl, rfl, _, rfl, ?_⟩
      rw [decide_eq_false (fun e => by cases e)]
      refine iteF ⟨.int i, rfl, .int i, .ty "bool", .type "int", .type "bool", false, rfl, .ty _, .base (.int i), kit_ty (by decide +kernel), false, rfl, iteF ?_⟩
      refine ⟨.int i, rfl, .int i, .ty "int", .type "int", .type "int", true, rfl, .ty _, .base (.int i), kit_ty (by decide +kernel), true, rfl, iteT ?_⟩
      refine ⟨.int i, rfl, .int i, .ty "int", .type "int", .type "int", true, rfl, .ty _, .base (.int i), kit_ty (by decide +kernel), true, rfl, iteT ?_⟩
      refine ⟨.int i, rfl, .int i, .ty "bool", .type "int", .type "bool", false, rfl, .ty _, .base (.int i), kit_ty (by decide +kernel), false, rfl, true, rfl, iteT ?_⟩
      refine ⟨.int i, rfl, .int i, rfl, rfl, ?_⟩
      rw [decide_eq_true rfl]
      exact q
    · skip
      refine ⟨.str z, rfl, rfl, _, rfl, ?_⟩
      rw [decide_eq_false (fun e => by cases e)]
      refine iteF ⟨.str z, rfl, .str z, .ty "bool", .type "str", .type "bool", false, rfl, .ty _, .base (.str z), kit_ty (by decide +kernel), false, rfl, iteF ?_⟩
      refine ⟨.str z, rfl, .str z, .ty "int", .type "str", .type "int", false, rfl, .ty _, .base (.str z), kit_ty (by decide +kernel), false, rfl, iteF ?_⟩
      refine ⟨.str z, rfl, .str z, .ty "str", .type "str", .type "str", true, rfl, .ty _, .base (.str z), kit_ty (by decide +kernel), true, rfl, iteT ?_⟩
      refine ⟨.str z, rfl, .str z, .ty "str", .type "str", .type "str", true, rfl, .ty _, .base (.str z), kit_ty (by decide +kernel), true, rfl, iteT ?_⟩
      refine ⟨.str z, rfl, .str z, rfl, rfl, ?_⟩
      rw [decide_eq_true rfl]
      exact q
    · skip
      refine ⟨.ref b, rfl, rfl, _, rfl, ?_⟩
      rw [decide_eq_false (fun e => by cases e)]
      refine iteF ⟨.ref b, rfl, .ref b, .ty "bool", .type "tuple", .type "bool", false, rfl, .ty _, .base (.tup hb), kit_ty (by decide +kernel), false, rfl, iteF ⟨.ref b, rfl, .ref b, .ty "int", .type "tuple", .type "int", false, rfl, .ty _, .base (.tup hb), kit_ty (by decide +kernel), false, rfl, iteF ⟨.ref b, rfl, .ref b, .ty "str", .type "tuple", .type "str", false, rfl, .ty _, .base (.tup hb), kit_ty (by decide +kernel), false, rfl, iteF ?_⟩⟩⟩
      refine ⟨.ref b, rfl, .ref b, .ty "tuple", .type "tuple", .type "tuple", true, rfl, .ty _, .base (.tup hb), kit_ty (by decide +kernel), true, rfl, iteT ⟨.ref a, rfl, .ref a, .ty "tuple", .type "tuple", .type "tuple", true, rfl, .ty _, .base (.tup ha), kit_ty (by decide +kernel), true, rfl, iteF ⟨.ref a, rfl, a, xs, rfl, .inr (.inl (.inl ha)), .ref b, rfl, b, ys, rfl, .inr (.inl (.inl hb)), rfl, _, rfl, ?_⟩⟩⟩
      rw [hl, decide_eq_true rfl]
      refine iteF ⟨.ref b, rfl, b, ys, rfl, .inr (.inl (.inl hb)), _, rfl, by omega, by omega, ?_⟩
      rw [show (((ys.length : Nat) : Int)).toNat = ys.length by omega]
      refine for_it walk_range (fun i σ H3 => ∃ y2, σ = [some (.ref a), some (.ref b), y2] ∧ H3 = H) ⟨none, rfl, rfl⟩ (fun _ _ _ _ _ => trivial) ?_ ?_
      · rintro i x σ H3 H4 hi ⟨y2, rfl, rfl⟩ ⟨rfl, ex⟩
        obtain rfl : x = V.int (i : Int) := by rw [ex]; exact congrArg V.int (by omega)
        have hx : xs[i]? = some (xs[i]'(by omega)) := List.getElem?_eq_getElem (by omega)
        have hy : ys[i]? = some ys[i] := List.getElem?_eq_getElem hi
        refine ⟨.ref a, rfl, .int i, rfl, (.inr (.inl ⟨a, xs, i, _, rfl, rfl, .inl (.inl ha), atI_nat hx, ?_⟩))⟩
        refine ⟨.ref b, rfl, .int i, rfl, (.inr (.inl ⟨b, ys, i, _, rfl, rfl, .inl (.inl hb), atI_nat hy, ?_⟩))⟩
        exact ⟨_, _, rfl, hall i _ _ hx hy, true, rfl, iteF ⟨_, rfl, rfl⟩⟩
      · rintro σ H3 ⟨y2, rfl, rfl⟩
        exact q
    · skip
      refine ⟨.ref b, rfl, rfl, _, rfl, ?_⟩
      rw [decide_eq_false (fun e => by cases e)]
      refine iteF ⟨.ref b, rfl, .ref b, .ty "bool", .type "list", .type "bool", false, rfl, .ty _, .base (.lst hb), kit_ty (by decide +kernel), false, rfl, iteF ⟨.ref b, rfl, .ref b, .ty "int", .type "list", .type "int", false, rfl, .ty _, .base (.lst hb), kit_ty (by decide +kernel), false, rfl, iteF ⟨.ref b, rfl, .ref b, .ty "str", .type "list", .type "str", false, rfl, .ty _, .base (.lst hb), kit_ty (by decide +kernel), false, rfl, iteF ?_⟩⟩⟩
      refine ⟨.ref b, rfl, .ref b, .ty "tuple", .type "list", .type "tuple", false, rfl, .ty _, .base (.lst hb), kit_ty (by decide +kernel), false, rfl, iteF ⟨.ref b, rfl, .ref b, .ty "list", .type "list", .type "list", true, rfl, .ty _, .base (.lst hb), kit_ty (by decide +kernel), true, rfl, iteF ⟨.ref a, rfl, .ref a, .ty "list", .type "list", .type "list", true, rfl, .ty _, .base (.lst ha), kit_ty (by decide +kernel), true, rfl, iteF ⟨.ref a, rfl, a, xs, rfl, .inl (SqL.of ha), .ref b, rfl, b, ys, rfl, .inl (SqL.of hb), rfl, _, rfl, ?_⟩⟩⟩⟩
      rw [hl, decide_eq_true rfl]
      refine iteF ⟨.ref b, rfl, b, ys, rfl, .inl (SqL.of hb), _, rfl, by omega, by omega, ?_⟩
      rw [show (((ys.length : Nat) : Int)).toNat = ys.length by omega]
      refine for_it walk_range (fun i σ H3 => ∃ y2, σ = [some (.ref a), some (.ref b), y2] ∧ H3 = H) ⟨none, rfl, rfl⟩ (fun _ _ _ _ _ => trivial) ?_ ?_
      · rintro i x σ H3 H4 hi ⟨y2, rfl, rfl⟩ ⟨rfl, ex⟩
        obtain rfl : x = V.int (i : Int) := by rw [ex]; exact congrArg V.int (by omega)
        have hx : xs[i]? = some (xs[i]'(by omega)) := List.getElem?_eq_getElem (by omega)
        have hy : ys[i]? = some ys[i] := List.getElem?_eq_getElem hi
        refine ⟨.ref a, rfl, .int i, rfl, (.inl ⟨a, xs, i, _, rfl, rfl, SqL.of ha, atI_nat hx, ?_⟩)⟩
        refine ⟨.ref b, rfl, .int i, rfl, (.inl ⟨b, ys, i, _, rfl, rfl, SqL.of hb, atI_nat hy, ?_⟩)⟩
        exact ⟨_, _, rfl, hall i _ _ hx hy, true, rfl, iteF ⟨_, rfl, rfl⟩⟩
      · rintro σ H3 ⟨y2, rfl, rfl⟩
        exact q
end
end Kw

set_option maxHeartbeats 4000000
/-! M10: the law's reading and listing, with the errors told. -/
namespace Kw
open PySem PySem.Spec PyProof.Rows L2 L2H
open C8 (Cal)
/-- a suite that is walked under a premise -/
theorem pss_when {X : Cx} {C : Prop} {st : List Stmt} {t : TS} (h : C → PSs X st t) : PSs X st (fun D σ H => C ∧ t D σ H) := ⟨fun pins s σ H D I q => (h q.1).run pins s σ H D I q.2⟩
theorem pss_either {X : Cx} {st : List Stmt} {t u : TS} (h : PSs X st t) (g : PSs X st u) : PSs X st (fun D σ H => t D σ H ∨ u D σ H) := ⟨fun pins s σ H D I q => q.elim (h.run pins s σ H D I) (g.run pins s σ H D I)⟩
section
variable {P : Program} {w : World} {K : PySem.W.Frag} {mg : Str → Option Value} {base : Heap} {CP NP TM BT CE : Addr}
/-- _law_refusal, called with an exception of the class D -/
structure RefC (P : Program) (w : World) (K : PySem.W.Frag) (mg : Str → Option Value) (base : Heap) (D : Addr) (n t b l i : Bool) : Prop where
  ex : ∃ (f : Addr) (fd : FuncData), (∀ d, FnR P w K mg base 1 f fd ["_law_error"] D d (spRef d n t b l i)) ∧ mg "_law_refusal" = some (.ref f) ∧ PySem.W.keepIn K (.ref f) = true ∧ Binds K fd ["_law_error"] []
theorem FnR.mono {D : Addr} {d : Option Addr} {j k : Nat} {f : Addr} {fd : FuncData} {ps : List Str} {sp : Addr → Sp} (hj : j ≤ k) (F : FnR P w K mg base j f fd ps D d sp) : FnR P w K mg base k f fd ps D d sp :=
  ⟨F.len, fun A outer s H args us vs Q E p hr => F.run A outer s H args us vs Q E p (hr.mono hj)⟩
/-- what the law reads from the text t -/
def RdAt (H : Hp) (CP T : Addr) (t : List Nat) : Prop := (∀ ns, readL t = some ns → ∃ p, H T = some (.tup [.str "told", .ref p]) ∧ PartAt H CP p ns) ∧ (readL t = none → Told H T "BadText" [.str (mk t)])
def spRd (CP : Addr) : Sp := fun vs H Q _ => ∃ t : List Nat, vs = [.str (mk t)] ∧ t.length ≤ 100000 ∧ ∀ H' T, Same H H' → H T = none → RdAt H' CP T t → Q (.ref T) H'
theorem ok_read {f : Addr} {fd : FuncData} {k : Nat} (gCE : mg "CrossError" = some (.ref CE)) (xBT : PySem.W.exmOne K (.ref BT) (.ref CE) = some true) (rBT : RefC P w K mg base BT false false true false true) (cR : CalX P w K mg base 7 "read_parting" (spRead CP BT))
    (F : L2.Fun K "_law_read" "_law_read" s_read f fd) : FnOk P w K mg base L2.CX0 (k + 8) f fd ["_law_text_here"] (spRd CP) := by
  obtain ⟨rf, rfd, rF, rm, rk, rb⟩ := rBT.ex
  refine F.ok sc_read (fun vs H Q E h => ?_) (fun cdv A outer s H vs Q E hr h => ?_)
  · obtain ⟨t, rfl, _⟩ := h
    rfl
  · obtain ⟨t, rfl, ht, q⟩ := h
    refine ⟨_, pss_cons (ps_try_as (i := 2) rfl rfl sc_read.nd rfl rfl ⟨rfl, by decide, .inl gCE⟩ L2.takes0
        (fun W pn xe tkW _ => pss_one (ps_set (i := 1) sc_read.nd rfl (.inl rfl) (pe_cx cR tkW hr (by omega) rfl (pa_cons (pv 0) pa_nil))))
        (ts := fun a cls d D σ H => cls = .ref BT ∧ tRet (tCallR a (spRef d false false true false true) (tCons (tVar 2) tNil)) D σ H)
        (fun a oe cls d pn hz hf => pss_when fun hc => by
          subst hc
          have hr1 := hr.mono (show 1 ≤ k + 7 by omega)
          exact pss_one (ps_ret (pe_callR (X := Cx.suite _ a ((a, oe) :: pn)) (p := (a, oe)) (rF d) (roomH_mark hr1 _) (List.mem_cons_self ..) hz hf rfl rm rk rb (pa_cons (pv 2) pa_nil)))))
      (pss_one (ps_ret (pe_tup (pa_cons pe_str (pa_cons (pv 1) pa_nil))))), ?_⟩
    refine ⟨.str (mk t), rfl, t, rfl, ht, fun ns hn H1 p s1 pa => ?_, fun hn H1 d s1 hd => ?_⟩
    · refine ⟨.ref p, rfl, by show 2 ≤ sizeLine; decide, fun T nT => ?_⟩
      refine q _ T (s1.new nT) (s1.free nT) ⟨fun ns' hn' => ?_, fun z => by rw [hn] at z; cases z⟩
      rw [hn] at hn'
      cases hn'
      exact ⟨p, upd_same, pa.same (same_new nT)⟩
    · refine ⟨true, xBT, fun _ a na => ⟨rfl, .ref a, rfl, [("text", .str (mk t))], "BadText", [.str (mk t)], rfl, fun dd e => ?_, fun z => (by cases z), .bt rfl, fun H' T s2 nT told => ?_⟩, fun z => by cases z⟩
      · cases e; exact hd
      · exact q _ T (s1.trans s2) (s1.free nT) ⟨fun ns' hn' => (by rw [hn] at hn'; cases hn'), fun _ => told⟩
/-- what the law lists for the count n -/
def LsAt (H : Hp) (CP T : Addr) (n : Int) : Prop := (1 ≤ n → n ≤ 5 → ∃ l, H T = some (.tup [.str "told", .ref l]) ∧ PartsAt H l CP (allN n.toNat)) ∧ (n < 1 → Told H T "NoPlots" []) ∧ (5 < n → n ≤ 16 → Told H T "TooMany" [.str "plots", .int 5]) ∧ (16 < n → Told H T "TooMany" [.str "plots", .int 16])
def spLs (CP : Addr) : Sp := fun vs H Q _ => ∃ n : Int, vs = [.int n] ∧ (1 ≤ n → n ≤ 5 → ∀ H' T l, Same H H' → H T = none → H l = none → l ≠ T → H' T = some (.tup [.str "told", .ref l]) → PartsAt H' l CP (allN n.toNat) → Q (.ref T) H') ∧
  (n < 1 → ∀ H' T, Same H H' → H T = none → Told H' T "NoPlots" [] → Q (.ref T) H') ∧ (5 < n → n ≤ 16 → ∀ H' T, Same H H' → H T = none → Told H' T "TooMany" [.str "plots", .int 5] → Q (.ref T) H') ∧ (16 < n → ∀ H' T, Same H H' → H T = none → Told H' T "TooMany" [.str "plots", .int 16] → Q (.ref T) H')
theorem PartsAt.same {H H' : Hp} {l CP : Addr} {L : List (List Nat)} (e : Same H H') : PartsAt H l CP L → PartsAt H' l CP L := fun ⟨ps, h1, h2, h3⟩ => ⟨ps, e _ _ h1, h2, fun a b => (h3 a b).same e⟩
theorem ok_listed {f : Addr} {fd : FuncData} {k : Nat} (gCE : mg "CrossError" = some (.ref CE)) (xNP : PySem.W.exmOne K (.ref NP) (.ref CE) = some true) (xTM : PySem.W.exmOne K (.ref TM) (.ref CE) = some true) (rNP : RefC P w K mg base NP true false false false true) (rTM : RefC P w K mg base TM false true false true false)
    (cA : CalX P w K mg base 6 "all_partings" (spAll CP NP TM)) (F : L2.Fun K "_law_listed" "_law_listed" s_listed f fd) : FnOk P w K mg base L2.CX0 (k + 7) f fd ["_law_counted"] (spLs CP) := by
  obtain ⟨rf, rfd, rF, rm, rk, rb⟩ := rNP.ex
  obtain ⟨tf, tfd, tF, tm, tkp, tb⟩ := rTM.ex
  refine F.ok sc_listed (fun vs H Q E h => ?_) (fun cdv A outer s H vs Q E hr h => ?_)
  · obtain ⟨n, rfl, _⟩ := h
    rfl
  · obtain ⟨n, rfl, q0, q1, q2, q3⟩ := h
    refine ⟨_, pss_cons (ps_try_as (i := 2) rfl rfl sc_listed.nd rfl rfl ⟨rfl, by decide, .inl gCE⟩ L2.takes0
        (fun W pn xe tkW _ => pss_one (ps_set (i := 1) sc_listed.nd rfl (.inl rfl) (pe_cx cA tkW hr (by omega) rfl (pa_cons (pv 0) pa_nil))))
        (ts := fun a cls d D σ H => (cls = .ref NP ∧ tRet (tCallR a (spRef d true false false false true) (tCons (tVar 2) tNil)) D σ H) ∨ (cls = .ref TM ∧ tRet (tCallR a (spRef d false true false true false) (tCons (tVar 2) tNil)) D σ H))
        (fun a oe cls d pn hz hf => pss_either (pss_when fun hc => by
          subst hc
          have hr1 := hr.mono (show 1 ≤ k + 6 by omega)
          exact pss_one (ps_ret (pe_callR (X := Cx.suite _ a ((a, oe) :: pn)) (p := (a, oe)) (rF d) (roomH_mark hr1 _) (List.mem_cons_self ..) hz hf rfl rm rk rb (pa_cons (pv 2) pa_nil)))) (pss_when fun hc => by
          subst hc
          have hr1 := hr.mono (show 1 ≤ k + 6 by omega)
          exact pss_one (ps_ret (pe_callR (X := Cx.suite _ a ((a, oe) :: pn)) (p := (a, oe)) (tF d) (roomH_mark hr1 _) (List.mem_cons_self ..) hz hf rfl tm tkp tb (pa_cons (pv 2) pa_nil))))))
      (pss_one (ps_ret (pe_tup (pa_cons pe_str (pa_cons (pv 1) pa_nil))))), ?_⟩
    refine ⟨.int n, rfl, n, rfl, fun h1 => ?_, fun h1 d H1 s1 hd => ?_, fun h1 h2 d H1 s1 hd => ?_, fun h1 h2 H1 l s1 nl pa => ?_⟩
    · exact ⟨true, xNP, fun _ a na => .inl ⟨rfl, .ref a, rfl, [], "NoPlots", [], rfl, fun dd e => (by cases e), fun z => rfl, .np, fun H' T s2 nT told => q1 h1 _ T s2 nT told⟩, fun z => by cases z⟩
    · exact ⟨true, xTM, fun _ a na => .inr ⟨rfl, .ref a, rfl, [("limit", .int 16), ("what", .str "plots")], "TooMany", [.str "plots", .int 16], rfl, fun dd e => (by cases e; exact hd), fun z => (by cases z), .tm rfl rfl, fun H' T s2 nT told => q3 h1 _ T (s1.trans s2) (s1.free nT) told⟩, fun z => by cases z⟩
    · exact ⟨true, xTM, fun _ a na => .inr ⟨rfl, .ref a, rfl, [("limit", .int 5), ("what", .str "plots")], "TooMany", [.str "plots", .int 5], rfl, fun dd e => (by cases e; exact hd), fun z => (by cases z), .tm rfl rfl, fun H' T s2 nT told => q2 h1 h2 _ T (s1.trans s2) (s1.free nT) told⟩, fun z => by cases z⟩
    · refine ⟨.ref l, rfl, by show 2 ≤ sizeLine; decide, fun T nT => ?_⟩
      obtain ⟨ps, hl, _⟩ := id pa
      exact q0 h1 h2 _ T l (s1.new nT) (s1.free nT) nl (fun e => by rw [e, nT] at hl; cases hl) upd_same (pa.same (same_new nT))
end
end Kw

set_option maxHeartbeats 4000000
/-! M11: _law_iswhole, _law_isparting, _law_readsright. -/
namespace Kw
open PySem PySem.Spec PyProof.Rows L2
open C8 (Cal)
section
variable {P : Program} {w : World} {K : PySem.W.Frag} {mg : Str → Option Value} {base : Heap} {CP : Addr}
theorem ok_iswhole {f : Addr} {fd : FuncData} {k : Nat} (B : Bl mg) (F : L2.Fun K "_law_iswhole" "_law_iswhole" s_iswhole f fd) : FnOk P w K mg base L2.CX0 (k + 1) f fd ["_law_value"] spWhole := by
  refine F.ok sc_iswhole (fun vs H Q E h => ?_) (fun cdv A outer s H vs Q E hr h => ?_)
  · obtain ⟨i, rfl, _⟩ := h
    rfl
  · obtain ⟨i, rfl, q⟩ := h
    refine ⟨_, pss_one (ps_ret (pe_and (pe_callB call_isi rfl B.isi boot_isi (pa_cons (pv 0) (pa_cons (pe_bltn rfl B.int boot_ty_int (rty _)) pa_nil))) (pe_one (pe_not (pe_callB call_isi rfl B.isi boot_isi (pa_cons (pv 0) (pa_cons (pe_bltn rfl B.bool boot_ty_bool (rty _)) pa_nil))))))), ?_⟩
    exact ⟨.int i, rfl, .int i, .ty "int", .type "int", .type "int", true, rfl, .ty _, .base (.int i), kit_int_int K, true, rfl, iteT ⟨.int i, rfl, .int i, .ty "bool", .type "int", .type "bool", false, rfl, .ty _, .base (.int i), kit_int_bool K, false, rfl, q⟩⟩
/-- a tuple of small numbers, twice -/
theorem sm_tup {H : Hp} {a b : Addr} {ns : List Nat} (ha : H a = some (.tup (ns.map nv))) (hb : H b = some (.tup (ns.map nv))) (hl : ns.length ≤ 1000) (n : Nat) : SmD H (n + 1) (.ref a) (.ref b) :=
  .inr ⟨a, b, _, _, rfl, rfl, .inl ⟨ha, hb⟩, rfl, by rw [List.length_map]; exact hl, fun i u v e1 e2 => by
    rw [e1] at e2
    cases e2
    rw [List.getElem?_map] at e1
    cases hi : ns[i]? with
    | none => rw [hi] at e1; cases e1
    | some m => rw [hi] at e1; cases e1; exact SmD.flat (.inl ⟨_, rfl, rfl⟩) n⟩
theorem sm_lots {H : Hp} {a b : Addr} {L : List (List Nat)} (ha : LotsAt H a L) (hb : LotsAt H b L) (hl : L.length ≤ 1000) (h : ∀ l ∈ L, l.length ≤ 1000) : SmD H 2 (.ref a) (.ref b) := by
  obtain ⟨ts, h1, t1⟩ := ha
  obtain ⟨us, h2, t2⟩ := hb
  refine .inr ⟨a, b, _, _, rfl, rfl, .inl ⟨h1, h2⟩, by rw [List.length_map, List.length_map, t1.len, t2.len], by rw [List.length_map, t1.len]; exact hl, fun i u v e1 e2 => ?_⟩
  rw [List.getElem?_map] at e1 e2
  cases hi : ts[i]? with
  | none => rw [hi] at e1; cases e1
  | some x =>
    cases hj : us[i]? with
    | none => rw [hj] at e2; cases e2
    | some y =>
      rw [hi] at e1
      rw [hj] at e2
      cases e1
      cases e2
      have hL : i < L.length := by
        rw [← t1.len]
        exact (List.getElem?_eq_some_iff.mp hi).1
      have hg : L[i]? = some L[i] := List.getElem?_eq_getElem hL
      exact sm_tup (t1.at_ hi hg) (t2.at_ hj hg) (h _ (List.getElem_mem hL)) 0
def spIsp (CP : Addr) : Sp := fun vs H Q _ => ∃ (p t : Addr) (ns : List Nat), vs = [.ref p, .ref t] ∧ PartAt H CP p ns ∧ H t = some (.tup (ns.map nv)) ∧ ns.length ≤ 16 ∧ ∀ H', Same H H' → Q (.bl true) H'
theorem ok_isparting {f : Addr} {fd : FuncData} {k : Nat} (B : Bl mg) (PC : PtC K CP) (iC : C8.InsC K CP) (gP : mg "Parting" = some (.ref CP)) (cS : Cal P w K mg base 3 "_law_same" (spSame 2) []) (cL : Cal P w K mg base 1 "_law_lots" (spLlots K) []) (cPt : Cal P w K mg base 2 "_law_partingtext" (spPtext K) []) (cT : Cal P w K mg base 3 "parting_text" (spPText CP) [])
    (pN : PrC P w K mg base CP "names" (spGet CP true)) (pL : PrC P w K mg base CP "lots" (spGet CP false)) (pP : PrC P w K mg base CP "plots" (spPlots CP)) (F : L2.Fun K "_law_isparting" "_law_isparting" s_isparting f fd) : FnOk P w K mg base L2.CX0 (k + 4) f fd ["_law_parting_here", "_law_names"] (spIsp CP) := by
  refine F.ok sc_isparting (fun vs H Q E h => ?_) (fun cdv A outer s H vs Q E hr h => ?_)
  · obtain ⟨p, t, ns, rfl, _⟩ := h
    rfl
  · obtain ⟨p, t, ns, rfl, ⟨dx, tn, tl, hp⟩, ht, hl, q⟩ := h
    refine ⟨_, pss_cons (ps_if (PW.pt (pw_or (pt_not (pt_val (pe_callB (C8.call_isC iC) rfl B.isi boot_isi (pa_cons (pv 0) (pa_cons (pe_glob rfl gP (v := .ref CP) rfl) pa_nil))))) (pw_or1 (pt_not (pt_val (C8.pe_c cS hr (by omega) rfl (pa_cons (pe_pr pN PC.cl hr (by omega) (pv 0)) (pa_cons (pv 1) pa_nil)))))))) pss_never pss_nil)
      (pss_cons (ps_if (PW.pt (pw_or (pt_not (pt_val (C8.pe_c cS hr (by omega) rfl (pa_cons (pe_pr pL PC.cl hr (by omega) (pv 0)) (pa_cons (C8.pe_c cL hr (by omega) rfl (pa_cons (pv 1) pa_nil)) pa_nil))))) (pw_or1 (pt_not (pt_val (C8.pe_c cS hr (by omega) rfl (pa_cons (pe_pr pP PC.cl hr (by omega) (pv 0)) (pa_cons (pe_callB call_len_seq (by rfl) B.len boot_len (pa_cons (pv 1) pa_nil)) pa_nil)))))))) pss_never pss_nil)
      (pss_one (ps_ret (C8.pe_c cS hr (by omega) rfl (pa_cons (C8.pe_c cT hr (by omega) rfl (pa_cons (pv 0) pa_nil)) (pa_cons (C8.pe_c cPt hr (by omega) rfl (pa_cons (pv 1) pa_nil)) pa_nil)))))), ?_⟩
    refine ⟨.ref p, rfl, p, dx, _, rfl, hp.1, true, rfl, iteF ?_⟩
    refine ⟨.ref p, rfl, p, dx, _, rfl, hp.1, p, dx, tn, tl, rfl, hp.1, .ref t, rfl, _, _, rfl, sm_tup hp.2.1 ht (by omega) 1, true, rfl, iteF ?_⟩
    refine ⟨.ref p, rfl, p, dx, _, rfl, hp.1, p, dx, tn, tl, rfl, hp.1, .ref t, rfl, true, t, ns, rfl, .inl (.inl ht), by omega, fun H1 l s1 nl hlt => ?_⟩
    refine ⟨_, _, rfl, sm_lots (hp.2.2.same s1) hlt (Nat.le_trans (lots_len ns) (by omega)) (fun l hm => Nat.le_trans (lots_small hm).1 (by omega)), true, rfl, iteF ?_⟩
    have hp1 := hp.same s1
    have ht1 := s1 _ _ ht
    refine ⟨.ref p, rfl, p, dx, _, rfl, hp1.1, p, dx, tn, tl, ns, rfl, hp1, .ref t, rfl, t, _, rfl, .inr (.inl (.inl ht1)), _, _, rfl, .inl (.inl ⟨_, rfl, by rw [List.length_map]⟩), true, rfl, iteF ?_⟩
    refine ⟨.ref p, rfl, p, ns, rfl, ⟨dx, tn, tl, hp1⟩, by omega, fun H2 s2 => ?_⟩
    refine ⟨.ref t, rfl, true, t, ns, rfl, .inl (.inl (s2 _ _ ht1)), by omega, fun H3 s3 => ?_⟩
    exact ⟨_, _, rfl, SmD.flat (.inr ⟨_, rfl, rfl⟩) 2, q H3 ((s1.trans s2).trans s3)⟩
end
end Kw

set_option maxHeartbeats 4000000
/-! M12: _law_readsright, _law_isname_row, _law_isall. Printed by gen_m12.py. -/
namespace Kw
open PySem PySem.Spec PyProof.Rows L2
open C8 (Cal)
section
variable {P : Program} {w : World} {K : PySem.W.Frag} {mg : Str → Option Value} {base : Heap} {CP : Addr}
theorem readL_len {t ns : List Nat} (h : readL t = some ns) : ns.length ≤ 16 := by
  obtain ⟨h1, _, rfl⟩ := readL_some h
  rw [nameT_len]
  exact h1.1
theorem sm_told {H : Hp} {T E2 D2 : Addr} {n : Str} {xs : List V} (h : Told H T n xs) (h2 : H D2 = some (.tup [.str n, .ref E2])) (h3 : H E2 = some (.tup xs)) (hl : xs.length ≤ 1000) (hf : ∀ v ∈ xs, Flat v v) : SmD H 2 (.ref T) (.ref D2) := by
  obtain ⟨E, a, b⟩ := h
  refine .inr ⟨T, D2, _, _, rfl, rfl, .inl ⟨a, h2⟩, rfl, (by show 2 ≤ 1000; decide), fun i u v e1 e2 => ?_⟩
  match i, e1, e2 with
  | 0, e1, e2 => cases e1; cases e2; exact .inl (.inr ⟨_, rfl, rfl⟩)
  | 1, e1, e2 =>
    cases e1
    cases e2
    refine .inr ⟨E, E2, _, _, rfl, rfl, .inl ⟨b, h3⟩, rfl, hl, fun j u v e3 e4 => ?_⟩
    rw [e3] at e4
    cases e4
    exact hf _ (get_mem e3)
  | j + 2, e1, e2 => cases e1
/-! ### _law_readsright -/
def spRr (K : PySem.W.Frag) : Sp := fun vs H Q _ => ∃ (a : Addr) (xs : List V), vs = [.ref a] ∧ H a = some (.lst xs) ∧ (∀ v ∈ xs, Tx v) ∧ ∀ H', Same H H' → Q (.bl true) H'
theorem ok_readsright {f : Addr} {fd : FuncData} {k : Nat} (B : Bl mg) (cRs : Cal P w K mg base 3 "_law_reads" spReads []) (cRd : Cal P w K mg base 8 "_law_read" (spRd CP) []) (cS : Cal P w K mg base 3 "_law_same" (spSame 2) []) (cI : Cal P w K mg base 4 "_law_isparting" (spIsp CP) [])
    (F : L2.Fun K "_law_readsright" "_law_readsright" s_readsright f fd) : FnOk P w K mg base L2.CX0 (k + 9) f fd ["_law_texts_here"] (spRr K) := by
  refine F.ok sc_readsright (fun vs H Q E h => ?_) (fun cdv A outer s H vs Q E hr h => ?_)
  · obtain ⟨a, xs, rfl, _⟩ := h
    rfl
  · obtain ⟨a, xs, rfl, ha, hx, q⟩ := h
    refine ⟨_, pss_cons (ps_for PassesOwn.never rfl (pi_list (pv 0)) (pg_name (i := 1) sc_readsright.nd rfl (.inl rfl)) (pss_cons (ps_set (i := 2) sc_readsright.nd rfl (.inl rfl) (C8.pe_c cRs hr (by omega) rfl (pa_cons (pv 1) pa_nil)))
      (pss_cons (ps_set (i := 3) sc_readsright.nd rfl (.inl rfl) (C8.pe_c cRd hr (by omega) rfl (pa_cons (pv 1) pa_nil)))
      (pss_one (ps_if (pt_cmpR op_isN (pv 2) pe_non (nomark _)) (pss_one (ps_if (pt_not (pt_val (C8.pe_c cS hr (by omega) rfl (pa_cons (pv 3) (pa_cons (pe_tup (pa_cons pe_str (pa_cons (pe_tup (pa_cons (pv 1) pa_nil)) pa_nil))) pa_nil))))) pss_never pss_nil)) (pss_one (ps_if (PW.pt (pw_or (pt_cmpR op_ne (pe_ix ix_tup (pv 3) pe_int fun _ _ => rfl) pe_str (nomark _)) (pw_or1 (pt_not (pt_val (C8.pe_c cI hr (by omega) rfl (pa_cons (pe_ix ix_tup (pv 3) pe_int fun _ _ => rfl) (pa_cons (pv 2) pa_nil)))))))) pss_never pss_nil)))))))
      (pss_one (ps_ret pe_bl)), ?_⟩
    refine ⟨.ref a, rfl, a, rfl, ⟨_, SqL.of ha⟩, ?_⟩
    refine for_it (walk_list (xs := xs)) (fun i σ H3 => ∃ y1 y2 y3, σ = [some (.ref a), y1, y2, y3] ∧ Same H H3) ⟨none, none, none, rfl, Same.refl H⟩ (fun i σ H3 _ ⟨_, _, _, _, s⟩ => SqL.of (s _ _ ha)) ?_ ?_
    · rintro i x σ H3 H4 hi ⟨y1, y2, y3, rfl, s3⟩ ⟨rfl, e2⟩
      obtain ⟨z, rfl, fz⟩ := hx x (get_mem (show xs[i]? = some x from e2))
      obtain ⟨t, rfl, ta, tl⟩ := fine_list fz
      refine ⟨.str (mk t), rfl, t, rfl, ta, tl, fun ns hn H5 p s5 np hp => ?_, fun hn H5 s5 => ?_⟩
      · refine ⟨.str (mk t), rfl, t, rfl, by omega, fun H6 T s6 nT rd => ?_⟩
        obtain ⟨pp, hT, pa⟩ := rd.1 ns hn
        refine ⟨.ref p, rfl, rfl, _, rfl, ?_⟩
        rw [decide_eq_false (fun e => by cases e)]
        refine iteF ⟨.ref T, rfl, T, _, 0, _, rfl, rfl, .inl (.inl hT), rfl, rfl, _, rfl, ?_⟩
        rw [decide_eq_true rfl]
        refine iteF ⟨.ref T, rfl, T, _, 1, _, rfl, rfl, .inl (.inl hT), rfl, .ref p, rfl, pp, p, ns, rfl, pa, s6 _ _ hp, readL_len hn, fun H7 s7 => ?_⟩
        exact ⟨true, rfl, iteF ⟨_, _, _, rfl, ((s3.trans s5).trans s6).trans s7⟩⟩
      · refine ⟨.str (mk t), rfl, t, rfl, by omega, fun H6 T s6 nT rd => ?_⟩
        have told := rd.2 hn
        refine ⟨.non, rfl, rfl, _, rfl, ?_⟩
        rw [decide_eq_true rfl]
        refine iteT ⟨.ref T, rfl, .str (mk t), rfl, by show 1 ≤ sizeLine; decide, fun E2 nE => ⟨by show 2 ≤ sizeLine; decide, fun D2 nD => ?_⟩⟩
        have ED : E2 ≠ D2 := ne_of_none upd_same nD
        have s7 := (same_new (o := .tup [.str (mk t)]) nE).new (o := .tup [.str "BadText", .ref E2]) nD
        refine ⟨_, _, rfl, sm_told (told.same s7) upd_same (by rw [upd_ne ED]; exact upd_same) (by show 1 ≤ 1000; decide) (fun v hv => ?_), true, rfl, iteF ⟨_, _, _, rfl, ((s3.trans s5).trans s6).trans s7⟩⟩
        rw [List.mem_singleton.mp hv]
        exact .inr ⟨_, rfl, rfl⟩
    · rintro σ H3 ⟨y1, y2, y3, rfl, s3⟩
      exact q H3 s3
/-! ### _law_isname_row -/
def spRow : Sp := fun vs H Q _ => ∃ (t : Addr) (ns : List Nat), vs = [.ref t, nv ns.length] ∧ H t = some (.tup (ns.map nv)) ∧ ns.length ≤ 16 ∧ Nm ns ∧ Q (.bl true) H
theorem ok_isrow {f : Addr} {fd : FuncData} {k : Nat} (B : Bl mg) (cW : Cal P w K mg base 1 "_law_iswhole" spWhole []) (F : L2.Fun K "_law_isname_row" "_law_isname_row" s_isrow f fd) : FnOk P w K mg base L2.CX0 (k + 2) f fd ["_law_names", "_law_plots"] spRow := by
  refine F.ok sc_isrow (fun vs H Q E h => ?_) (fun cdv A outer s H vs Q E hr h => ?_)
  · obtain ⟨t, ns, rfl, _⟩ := h
    rfl
  · obtain ⟨t, ns, rfl, ht, hl, nm, q⟩ := h
    refine ⟨_, pss_cons (ps_if (PW.pt (pw_or (pt_not (pt_val (pe_callB call_isi rfl B.isi boot_isi (pa_cons (pv 0) (pa_cons (pe_bltn rfl B.tuple boot_ty_tuple (rty _)) pa_nil))))) (pw_or1 (pt_cmpR op_ne (pe_callB call_len_seq (by rfl) B.len boot_len (pa_cons (pv 0) pa_nil)) (pv 1) (nomark _))))) pss_never pss_nil)
      (pss_cons (ps_for PassesOwn.never rfl (pi_range1 rfl B.range (pa_cons (pv 1) pa_nil)) (pg_name (i := 2) sc_isrow.nd rfl (.inl rfl)) (pss_one (ps_if (PW.pt (pw_or (pt_not (pt_val (C8.pe_c cW hr (by omega) rfl (pa_cons (pe_ix ix_tup (pv 0) (pv 2) fun _ _ => rfl) pa_nil)))) (pw_or (pt_cmpR op_lt (pe_ix ix_tup (pv 0) (pv 2) fun _ _ => rfl) pe_int (nomark _)) (pw_or (pt_cmpR op_gt (pe_ix ix_tup (pv 0) (pv 2) fun _ _ => rfl) (pv 2) (nomark _)) (pw_or1 (pt_cmpR op_ne (pe_ix ix_tup (pv 0) (pe_ix ix_tup (pv 0) (pv 2) fun _ _ => rfl) fun _ _ => rfl) (pe_ix ix_tup (pv 0) (pv 2) fun _ _ => rfl) (nomark _))))))) pss_never pss_nil)))
      (pss_one (ps_ret pe_bl))), ?_⟩
    refine ⟨.ref t, rfl, .ref t, .ty "tuple", .type "tuple", .type "tuple", true, rfl, .ty _, .base (.tup ht), kit_ty (by decide +kernel), true, rfl, iteF ⟨.ref t, rfl, t, _, rfl, .inr (.inl (.inl ht)), nv ns.length, rfl, rfl, _, rfl, ?_⟩⟩
    rw [List.length_map, decide_eq_true rfl]
    refine iteF ⟨nv ns.length, rfl, _, rfl, by omega, by omega, ?_⟩
    rw [show (((ns.length : Nat) : Int)).toNat = ns.length by omega]
    refine for_it walk_range (fun i σ H3 => ∃ y2, σ = [some (.ref t), some (nv ns.length), y2] ∧ H3 = H) ⟨none, rfl, rfl⟩ (fun _ _ _ _ _ => trivial) ?_ ?_
    · rintro i x σ H3 H4 hi ⟨y2, rfl, rfl⟩ ⟨rfl, ex⟩
      obtain rfl : x = V.int (i : Int) := by rw [ex]; exact congrArg V.int (by omega)
      have hg : ns[i]? = some ns[i] := List.getElem?_eq_getElem hi
      have h1 := nm_le nm hg
      have h2 := nm_self nm hg
      generalize ns[i] = m at hg h1 h2
      have gi : (ns.map nv)[i]? = some (nv m) := by rw [List.getElem?_map, hg]; rfl
      have gm : (ns.map nv)[m]? = some (nv m) := by rw [List.getElem?_map, h2]; rfl
      have T : SqT K H4 t (ns.map nv) := .inl (.inl ht)
      refine ⟨.ref t, rfl, .int i, rfl, t, _, _, nv m, rfl, rfl, T, atI_nat gi, _, rfl, true, rfl, iteF ?_⟩
      refine ⟨.ref t, rfl, .int i, rfl, t, _, _, nv m, rfl, rfl, T, atI_nat gi, _, 0, rfl, rfl, _, rfl, ?_⟩
      rw [decide_eq_false (by omega)]
      refine iteF ⟨.ref t, rfl, .int i, rfl, t, _, _, nv m, rfl, rfl, T, atI_nat gi, .int i, rfl, _, _, rfl, rfl, _, rfl, ?_⟩
      rw [decide_eq_false (by omega)]
      refine iteF ⟨.ref t, rfl, .ref t, rfl, .int i, rfl, t, _, _, nv m, rfl, rfl, T, atI_nat gi, t, _, _, nv m, rfl, rfl, T, atI_nat gm, .ref t, rfl, .int i, rfl, t, _, _, nv m, rfl, rfl, T, atI_nat gi, rfl, _, rfl, ?_⟩
      rw [decide_eq_true rfl]
      exact iteF ⟨_, rfl, rfl⟩
    · rintro σ H3 ⟨y2, rfl, rfl⟩
      exact q
/-! ### _law_isall -/
def spIsall (CP : Addr) : Sp := fun vs H Q _ => ∃ (T l : Addr) (n : Nat), vs = [.ref T, nv n] ∧ 1 ≤ n ∧ n ≤ 5 ∧ H T = some (.tup [.str "told", .ref l]) ∧ PartsAt H l CP (allN n) ∧ ∀ H', Same H H' → Q (.bl true) H'
theorem ok_isall {f : Addr} {fd : FuncData} {k : Nat} (B : Bl mg) (PC : PtC K CP) (iC : C8.InsC K CP) (gP : mg "Parting" = some (.ref CP)) (cRow : Cal P w K mg base 2 "_law_isname_row" spRow []) (cRd : Cal P w K mg base 8 "_law_read" (spRd CP) []) (cI : Cal P w K mg base 4 "_law_isparting" (spIsp CP) []) (cT : Cal P w K mg base 3 "parting_text" (spPText CP) [])
    (pN : PrC P w K mg base CP "names" (spGet CP true)) (F : L2.Fun K "_law_isall" "_law_isall" s_isall f fd) : FnOk P w K mg base L2.CX0 (k + 9) f fd ["_law_told", "_law_plots"] (spIsall CP) := by
  refine F.ok sc_isall (fun vs H Q E h => ?_) (fun cdv A outer s H vs Q E hr h => ?_)
  · obtain ⟨T, l, n, rfl, _⟩ := h
    rfl
  · obtain ⟨T, l, n, rfl, h1, h5, hT, ⟨ps, hl, pl, pat⟩, q⟩ := h
    have hu := Nat.lt_of_le_of_lt (Nat.le_add_right _ 64) hr.units
    refine ⟨_, pss_cons (ps_if (PW.pt (pw_or (pt_cmpR op_ne (pe_ix ix_tup (pv 0) pe_int fun _ _ => rfl) pe_str (nomark _)) (pw_or (pt_not (pt_val (pe_callB call_isi rfl B.isi boot_isi (pa_cons (pe_ix ix_tup (pv 0) pe_int fun _ _ => rfl) (pa_cons (pe_bltn rfl B.list boot_ty_list (rty _)) pa_nil))))) (pw_or1 (pt_cmpR op_ne (pe_callB call_len_seq (by rfl) B.len boot_len (pa_cons (pe_ix ix_tup (pv 0) pe_int fun _ _ => rfl) pa_nil)) (pe_ix ix_tup (pe_tup (pa_cons pe_int (pa_cons pe_int (pa_cons pe_int (pa_cons pe_int (pa_cons pe_int (pa_cons pe_int pa_nil))))))) (pv 1) fun _ _ => rfl) (nomark _)))))) pss_never pss_nil)
      (pss_cons (ps_set (i := 2) sc_isall.nd rfl (.inl rfl) pe_non)
      (pss_cons (ps_for PassesOwn.never rfl (pi_list (pe_ix ix_tup (pv 0) pe_int fun _ _ => rfl)) (pg_name (i := 3) sc_isall.nd rfl (.inl rfl)) (pss_cons (ps_if (PW.pt (pw_or (pt_not (pt_val (pe_callB (C8.call_isC iC) rfl B.isi boot_isi (pa_cons (pv 3) (pa_cons (pe_glob rfl gP (v := .ref CP) rfl) pa_nil))))) (pw_or1 (pt_not (pt_val (C8.pe_c cRow hr (by omega) rfl (pa_cons (pe_pr pN PC.cl hr (by omega) (pv 3)) (pa_cons (pv 1) pa_nil)))))))) pss_never pss_nil)
      (pss_cons (ps_if (PW.pt (pw_and (pt_cmpR op_notN (pv 2) pe_non (nomark _)) (pw_and1 (pt_not (pt_cmpR (op_ltT hu) (pv 2) (pe_pr pN PC.cl hr (by omega) (pv 3)) (nomark _)))))) pss_never pss_nil)
      (pss_cons (ps_set (i := 2) sc_isall.nd rfl (.inl rfl) (pe_pr pN PC.cl hr (by omega) (pv 3)))
      (pss_cons (ps_set (i := 4) sc_isall.nd rfl (.inl rfl) (C8.pe_c cRd hr (by omega) rfl (pa_cons (C8.pe_c cT hr (by omega) rfl (pa_cons (pv 3) pa_nil)) pa_nil)))
      (pss_one (ps_if (PW.pt (pw_or (pt_cmpR op_ne (pe_ix ix_tup (pv 4) pe_int fun _ _ => rfl) pe_str (nomark _)) (pw_or (pt_not (pt_val (C8.pe_c cI hr (by omega) rfl (pa_cons (pe_ix ix_tup (pv 4) pe_int fun _ _ => rfl) (pa_cons (pv 2) pa_nil))))) (pw_or1 (pt_not (pt_val (C8.pe_c cI hr (by omega) rfl (pa_cons (pv 3) (pa_cons (pv 2) pa_nil))))))))) pss_never pss_nil)))))))
      (pss_one (ps_ret pe_bl)))), ?_⟩
    have hT2 : ∀ {H'}, Same H H' → SqT K H' T [.str "told", .ref l] := fun e => .inl (.inl (e _ _ hT))
    have hB : nv (allN n).length = .int ((belln n : Nat) : Int) := by rw [allN_count h1 h5]
    refine ⟨.ref T, rfl, T, _, 0, _, rfl, rfl, hT2 (Same.refl H), rfl, rfl, _, rfl, ?_⟩
    rw [decide_eq_true rfl]
    refine iteF ⟨.ref T, rfl, T, _, 1, _, rfl, rfl, hT2 (Same.refl H), rfl, .ref l, .ty "list", .type "list", .type "list", true, rfl, .ty _, .base (.lst hl), kit_ty (by decide +kernel), true, rfl, iteF ?_⟩
    refine ⟨.ref T, rfl, T, _, 1, _, rfl, rfl, hT2 (Same.refl H), rfl, l, _, rfl, .inl (SqL.of hl), by show 6 ≤ sizeLine; decide, fun C nC => ?_⟩
    have sC := same_new (o := .tup [.int 0, .int 1, .int 2, .int 5, .int 15, .int 52]) nC
    refine ⟨nv n, rfl, C, _, _, .int ((belln n : Nat) : Int), rfl, rfl, .inl (.inl upd_same), ?_, rfl, _, rfl, ?_⟩
    · refine atI_nat ?_
      rcases (by omega : n = 1 ∨ n = 2 ∨ n = 3 ∨ n = 4 ∨ n = 5) with e | e | e | e | e <;> subst e <;> rfl
    rw [List.length_map, pl, decide_eq_true hB]
    refine iteF ?_
    refine ⟨.ref T, rfl, T, _, 1, _, rfl, rfl, hT2 sC, rfl, l, rfl, ⟨_, SqL.of (sC _ _ hl)⟩, ?_⟩
    refine for_it (walk_list (xs := ps.map V.ref)) (fun i σ H3 => ∃ y2 y3 y4, σ = [some (.ref T), some (nv n), some y2, y3, y4] ∧ Same H H3 ∧ ((i = 0 ∧ y2 = .non) ∨ ∃ (j : Nat) (t : Addr) (ms : List Nat), i = j + 1 ∧ y2 = .ref t ∧ H3 t = some (.tup (ms.map nv)) ∧ (allN n)[j]? = some ms))
      ⟨.non, none, none, rfl, sC, .inl ⟨rfl, rfl⟩⟩ (fun i σ H3 _ ⟨_, _, _, _, s, _⟩ => SqL.of (s _ _ hl)) ?_ ?_
    · rintro i x σ H3 H4 hi ⟨y2, y3, y4, rfl, s3, hy⟩ ⟨rfl, e2⟩
      rw [List.length_map] at hi
      have hp : ps[i]? = some ps[i] := List.getElem?_eq_getElem hi
      have hiL : i < (allN n).length := by rw [← pl]; exact hi
      have hn : (allN n)[i]? = some (allN n)[i] := List.getElem?_eq_getElem hiL
      obtain rfl : V.ref ps[i] = x := by
        have := show (ps.map V.ref)[i]? = some x from e2
        rw [List.getElem?_map, hp] at this
        exact Option.some.inj this
      obtain ⟨dx, tn, tl, pX⟩ := (pat hp hn).same s3
      obtain ⟨nl, nnm, nrd⟩ := allN_fine h1 h5 (get_mem hn)
      generalize (allN n)[i] = ns at hn pX nl nnm nrd
      generalize ps[i] = p at hp pX
      have hl16 : ns.length ≤ 16 := by omega
      have nvn : nv n = nv ns.length := by rw [nl]
      refine ⟨.ref p, rfl, p, dx, _, rfl, pX.1, true, rfl, iteF ?_⟩
      refine ⟨.ref p, rfl, p, dx, _, rfl, pX.1, p, dx, tn, tl, rfl, pX.1, nv n, rfl, tn, ns, by rw [nvn]; rfl, pX.2.1, hl16, nnm, true, rfl, iteF ?_⟩
      rcases hy with ⟨rfl, rfl⟩ | ⟨j, t, ms, rfl, rfl, ht, hm⟩
      · refine ⟨.non, rfl, rfl, _, rfl, ?_⟩
        rw [decide_eq_true rfl]
        refine iteF (iteF ?_)
        refine ⟨.ref p, rfl, p, dx, _, rfl, pX.1, p, dx, tn, tl, rfl, pX.1, ?_⟩
        refine ⟨.ref p, rfl, p, ns, rfl, ⟨dx, tn, tl, pX⟩, by omega, fun H5 s5 => ⟨textL ns, rfl, Nat.le_trans (len_text (by omega)) (by decide), fun H6 T2 s6 nT rd => ?_⟩⟩
        obtain ⟨p2, hT2', pa2⟩ := rd.1 ns nrd
        have s46 := s5.trans s6
        have pX6 := pX.same s46
        refine ⟨.ref T2, rfl, T2, _, 0, _, rfl, rfl, .inl (.inl hT2'), rfl, rfl, _, rfl, ?_⟩
        rw [decide_eq_true rfl]
        refine iteF ⟨.ref T2, rfl, T2, _, 1, _, rfl, rfl, .inl (.inl hT2'), rfl, .ref tn, rfl, p2, tn, ns, rfl, pa2, pX6.2.1, hl16, fun H7 s7 => ⟨true, rfl, iteF ?_⟩⟩
        refine ⟨.ref p, rfl, .ref tn, rfl, p, tn, ns, rfl, ⟨dx, tn, tl, pX6.same s7⟩, s7 _ _ pX6.2.1, hl16, fun H8 s8 => ⟨true, rfl, iteF ?_⟩⟩
        exact ⟨.ref tn, _, _, rfl, ((s3.trans s46).trans s7).trans s8, .inr ⟨_, tn, ns, rfl, rfl, s8 _ _ (s7 _ _ pX6.2.1), hn⟩⟩
      · refine ⟨.ref t, rfl, rfl, _, rfl, ?_⟩
        rw [decide_eq_false (fun e => by cases e)]
        refine iteT ⟨.ref t, rfl, .ref p, rfl, p, dx, _, rfl, pX.1, p, dx, tn, tl, rfl, pX.1, t, tn, zs ms, zs ns, rfl, rfl, .inl (.inl (by rw [← zs_int]; exact ht)), .inl (.inl (by rw [← zs_int]; exact pX.2.1)), _, rfl, ?_⟩
        rw [allN_lt h1 h5 hm hn]
        refine iteF ?_
        refine ⟨.ref p, rfl, p, dx, _, rfl, pX.1, p, dx, tn, tl, rfl, pX.1, ?_⟩
        refine ⟨.ref p, rfl, p, ns, rfl, ⟨dx, tn, tl, pX⟩, by omega, fun H5 s5 => ⟨textL ns, rfl, Nat.le_trans (len_text (by omega)) (by decide), fun H6 T2 s6 nT rd => ?_⟩⟩
        obtain ⟨p2, hT2', pa2⟩ := rd.1 ns nrd
        have s46 := s5.trans s6
        have pX6 := pX.same s46
        refine ⟨.ref T2, rfl, T2, _, 0, _, rfl, rfl, .inl (.inl hT2'), rfl, rfl, _, rfl, ?_⟩
        rw [decide_eq_true rfl]
        refine iteF ⟨.ref T2, rfl, T2, _, 1, _, rfl, rfl, .inl (.inl hT2'), rfl, .ref tn, rfl, p2, tn, ns, rfl, pa2, pX6.2.1, hl16, fun H7 s7 => ⟨true, rfl, iteF ?_⟩⟩
        refine ⟨.ref p, rfl, .ref tn, rfl, p, tn, ns, rfl, ⟨dx, tn, tl, pX6.same s7⟩, s7 _ _ pX6.2.1, hl16, fun H8 s8 => ⟨true, rfl, iteF ?_⟩⟩
        exact ⟨.ref tn, _, _, rfl, ((s3.trans s46).trans s7).trans s8, .inr ⟨_, tn, ns, rfl, rfl, s8 _ _ (s7 _ _ pX6.2.1), hn⟩⟩
    · rintro σ H3 ⟨y2, y3, y4, rfl, s3, _⟩
      exact q H3 s3
end
end Kw

set_option maxHeartbeats 4000000
/-! M13: law. Printed by gen_m13.py. -/
namespace Kw
open PySem PySem.Spec PyProof.Rows L2
open C8 (Cal Mak)
section
variable {P : Program} {w : World} {K : PySem.W.Frag} {mg : Str → Option Value} {base : Heap} {CP : Addr}
theorem PartsAt.fresh {H : Hp} {l CP : Addr} {L : List (List Nat)} (h : PartsAt H l CP L) : ∃ xs, H l = some (.lst xs) := by
  obtain ⟨ps, h1, _⟩ := h
  exact ⟨_, h1⟩
theorem sq_int {H : Hp} {t : Addr} {ns : List Nat} (h : H t = some (.tup (ns.map nv))) : SqB K true H t ((zs ns).map V.int) := .inl (.inl (by rw [← zs_int]; exact h))
def spLaw (K : PySem.W.Frag) : Sp := fun vs H Q _ => ∃ (a : Addr) (ns : List Int), vs = [.ref a] ∧ SqL K H a (ns.map V.int) ∧ ns.length ≤ 100 ∧ ∀ H', Q (.bl true) H'
theorem ok_law {f : Addr} {fd : FuncData} {k : Nat} (B : Bl mg) (gP : mg "Parting" = some (.ref CP))
    (cSt : Cal P w K mg base 1 "_law_store" (spStore K) []) (cT : Cal P w K mg base 2 "_law_take" spTake []) (cP : Cal P w K mg base 3 "_law_pick" (spPick K) []) (cB : Cal P w K mg base 4 "_law_between" spBetween [])
    (cR : Cal P w K mg base 3 "_law_parting" spLpart []) (cX : Cal P w K mg base 6 "_law_texts" spTexts []) (mk : Mak P w K mg base 4 "Parting" CP (spInit K CP) [])
    (cI : Cal P w K mg base 4 "_law_isparting" (spIsp CP) []) (cRr : Cal P w K mg base 9 "_law_readsright" (spRr K) []) (cL : Cal P w K mg base 7 "_law_listed" (spLs CP) []) (cA : Cal P w K mg base 9 "_law_isall" (spIsall CP) [])
    (cS2 : Cal P w K mg base 3 "_law_same" (spSame 2) []) (cS3 : Cal P w K mg base 4 "_law_same" (spSame 3) [])
    (F : L2.Fun K "law" "law" s_law f fd) : FnOk P w K mg base L2.CX0 (k + 10) f fd ["_law_script"] (spLaw K) := by
  refine F.ok sc_law (fun vs H Q E h => ?_) (fun cdv A outer s H vs Q E hr h => ?_)
  · obtain ⟨a, ns, rfl, _⟩ := h
    rfl
  · obtain ⟨a, ns, rfl, hS, hl, q⟩ := h
    refine ⟨_, pss_cons (ps_set (i := 1) sc_law.nd rfl (.inl rfl) (C8.pe_c cSt hr (by omega) rfl (pa_cons (pv 0) pa_nil)))
      (pss_cons (ps_set (i := 2) sc_law.nd rfl (.inl rfl) (C8.pe_c cR hr (by omega) rfl (pa_cons (pv 1) (pa_cons (C8.pe_c cB hr (by omega) rfl (pa_cons (pv 1) (pa_cons pe_int (pa_cons pe_int pa_nil)))) pa_nil))))
      (pss_cons (ps_set (i := 3) sc_law.nd rfl (.inl rfl) (C8.pe_c cR hr (by omega) rfl (pa_cons (pv 1) (pa_cons (C8.pe_c cB hr (by omega) rfl (pa_cons (pv 1) (pa_cons pe_int (pa_cons pe_int pa_nil)))) pa_nil))))
      (pss_cons (ps_set (i := 4) sc_law.nd rfl (.inl rfl) (C8.pe_c cX hr (by omega) rfl (pa_cons (pv 1) (pa_cons (pv 2) (pa_cons (pv 3) pa_nil)))))
      (pss_cons (ps_set (i := 5) sc_law.nd rfl (.inl rfl) (pe_op op_add pe_int (C8.pe_c cT hr (by omega) rfl (pa_cons (pv 1) (pa_cons pe_int pa_nil)))))
      (pss_cons (ps_set (i := 6) sc_law.nd rfl (.inl rfl) (C8.pe_c cB hr (by omega) rfl (pa_cons (pv 1) (pa_cons pe_int (pa_cons pe_int pa_nil)))))
      (pss_cons (ps_set (i := 7) sc_law.nd rfl (.inl rfl) (C8.pe_c cP hr (by omega) rfl (pa_cons (pv 1) (pa_cons (pe_tup (pa_cons pe_int (pa_cons pe_int (pa_cons (pe_op op_pow pe_int pe_int) pa_nil)))) pa_nil))))
      (pss_cons (ps_set (i := 8) sc_law.nd rfl (.inl rfl) (C8.pe_mk mk hr (by omega) rfl (pa_cons (pe_callTy call_list_of rfl B.list boot_ty_list (pa_cons (pv 2) pa_nil)) pa_nil)))
      (pss_cons (ps_set (i := 9) sc_law.nd rfl (.inl rfl) (C8.pe_mk mk hr (by omega) rfl (pa_cons (pv 3) pa_nil)))
      (pss_cons (ps_for PassesOwn.never rfl (pi_range1 rfl B.range (pa_cons pe_int pa_nil)) (pg_name (i := 10) sc_law.nd rfl (.inl rfl)) (pss_cons (ps_if (PW.pt (pw_or (pt_not (pt_val (C8.pe_c cI hr (by omega) rfl (pa_cons (pv 8) (pa_cons (pv 2) pa_nil))))) (pw_or (pt_not (pt_val (C8.pe_c cI hr (by omega) rfl (pa_cons (pv 9) (pa_cons (pv 3) pa_nil))))) (pw_or1 (pt_not (pt_val (C8.pe_c cRr hr (by omega) rfl (pa_cons (pv 4) pa_nil)))))))) pss_never pss_nil)
      (pss_cons (ps_set (i := 11) sc_law.nd rfl (.inl rfl) (C8.pe_c cL hr (by omega) rfl (pa_cons (pv 5) pa_nil)))
      (pss_cons (ps_if (pt_not (pt_val (C8.pe_c cA hr (by omega) rfl (pa_cons (pv 11) (pa_cons (pv 5) pa_nil))))) pss_never pss_nil)
      (pss_cons (ps_set (i := 12) sc_law.nd rfl (.inl rfl) (pe_ix ix_tup (pv 11) pe_int fun _ _ => rfl))
      (pss_cons (ps_expr (pe_bm PySem.F.plainAttrs_list PySem.F.slot_list_append PySem.F.type_list_append mt_append (pv 12) (pa_cons (pv 9) pa_nil)))
      (pss_cons (ps_asg (pv 8) (pg_sub (pv 12) pe_int set_list))
      (pss_cons (ps_if (pt_not (pt_val (C8.pe_c cS2 hr (by omega) rfl (pa_cons (C8.pe_c cL hr (by omega) rfl (pa_cons (pv 6) pa_nil)) (pa_cons (pe_tup (pa_cons pe_str (pa_cons (pe_tup (pa_cons pe_str (pa_cons pe_int pa_nil))) pa_nil))) pa_nil))))) pss_never pss_nil)
      (pss_cons (ps_if (pt_not (pt_val (C8.pe_c cS2 hr (by omega) rfl (pa_cons (C8.pe_c cL hr (by omega) rfl (pa_cons (pv 7) pa_nil)) (pa_cons (pe_tup (pa_cons pe_str (pa_cons (pe_tup (pa_cons pe_str (pa_cons pe_int pa_nil))) pa_nil))) pa_nil))))) pss_never pss_nil)
      (pss_one (ps_if (pt_not (pt_val (C8.pe_c cS3 hr (by omega) rfl (pa_cons (pe_lst (pa_cons (C8.pe_c cL hr (by omega) rfl (pa_cons pe_int pa_nil)) (pa_cons (C8.pe_c cL hr (by omega) rfl (pa_cons (pe_op op_sub (pe_op op_sub pe_int (pv 7)) (pv 5)) pa_nil)) pa_nil))) (pa_cons (pe_lst (pa_cons (pe_tup (pa_cons pe_str (pa_cons (pe_tup pa_nil) pa_nil))) (pa_cons (pe_tup (pa_cons pe_str (pa_cons (pe_tup pa_nil) pa_nil))) pa_nil))) pa_nil))))) pss_never pss_nil)))))))))))
      (pss_one (ps_ret (pe_and (C8.pe_c cA hr (by omega) rfl (pa_cons (C8.pe_c cL hr (by omega) rfl (pa_cons (pv 5) pa_nil)) (pa_cons (pv 5) pa_nil))) (pe_one (C8.pe_c cA hr (by omega) rfl (pa_cons (C8.pe_c cL hr (by omega) rfl (pa_cons (pe_op op_add (pe_op op_mod (pe_callTy call_int1 rfl B.int boot_ty_int (pa_cons (pv 5) pa_nil)) pe_int) pe_int) pa_nil)) (pa_cons (pe_op op_add (pe_op op_mod (pe_callTy call_int1 rfl B.int boot_ty_int (pa_cons (pv 5) pa_nil)) pe_int) pe_int) pa_nil)))))))))))))))), ?_⟩
    -- the draws
    refine ⟨.ref a, rfl, a, ns, rfl, hS, hl, fun H1 l c s1 nl st1 => ?_⟩
    refine ⟨.ref l, rfl, .ref l, rfl, l, c, 1, 16, rfl, by omega, st1, fun r1 H2 lo1 hi1 b2 st2 => ?_⟩
    obtain ⟨n1, rfl⟩ : ∃ n : Nat, r1 = (n : Int) := ⟨r1.toNat, by omega⟩
    refine ⟨l, c, n1, rfl, by omega, by omega, st2, fun H3 t1 ns1 b3 st3 nt1 ht1 nm1 l1 => ?_⟩
    refine ⟨.ref l, rfl, .ref l, rfl, l, c, 1, 16, rfl, by omega, st3, fun r2 H4 lo2 hi2 b4 st4 => ?_⟩
    obtain ⟨n2, rfl⟩ : ∃ n : Nat, r2 = (n : Int) := ⟨r2.toNat, by omega⟩
    have nel : ∀ {H' : Hp} {t : Addr} {ys : List V}, Sto H' l c → H' t = some (.tup ys) → t ≠ l := fun st ht e => by
      obtain ⟨zs, hz⟩ := st.lst
      rw [e, hz] at ht
      cases ht
    have t1l := nel st3 ht1
    refine ⟨l, c, n2, rfl, by omega, by omega, st4, fun H5 t2 ns2 b5 st5 nt2 ht2 nm2 l2 => ?_⟩
    have t2l := nel st5 ht2
    have ht1' := b5 _ _ t1l (b4 _ _ t1l ht1)
    refine ⟨.ref l, rfl, .ref t1, rfl, .ref t2, rfl, l, c, t1, t2, ns1, ns2, rfl, ht1', ht2, by omega, by omega, st5, fun H6 tx xs b6 st6 ntx htx lx hx => ?_⟩
    have txl : tx ≠ l := fun e => by
      obtain ⟨zs, hz⟩ := st5.lst
      rw [e, hz] at ntx
      cases ntx
    refine ⟨.ref l, rfl, l, c, 5, rfl, by omega, st6, fun r5 H7 lo5 hi5 b7 st7 => ⟨1, r5, rfl, rfl, ?_⟩⟩
    obtain ⟨m0, rfl⟩ : ∃ n : Nat, r5 = (n : Int) := ⟨r5.toNat, by omega⟩
    obtain ⟨n, hn⟩ : ∃ n : Nat, n = 1 + m0 := ⟨_, rfl⟩
    have n15 : 1 ≤ n := by omega
    have n5 : n ≤ 5 := by omega
    refine ⟨.ref l, rfl, l, c, 6, 16, rfl, by omega, st7, fun r6 H8 lo6 hi6 b8 st8 => ?_⟩
    refine ⟨.ref l, rfl, 10, 39, rfl, rfl, ⟨by omega, by omega, by decide⟩, by show 3 ≤ sizeLine; decide, fun W nW => ?_⟩
    have st8' := st8.same (same_new (o := .tup [.int 17, .int 18, .int (10 ^ (39 : Int).toNat)]) nW)
    refine ⟨l, c, .ref W, fun v => ∃ z : Int, v = .int z ∧ 16 < z, rfl, st8', .inr (.inl ⟨W, _, rfl, .inl (.inl upd_same), by show 1 ≤ 3; decide, by show 3 ≤ 90000; decide, fun v hv => ?_⟩), fun v H9 hv b9 st9 => ?_⟩
    · rcases List.mem_cons.mp hv with e | hv
      · exact ⟨17, e, by decide⟩
      rcases List.mem_cons.mp hv with e | hv
      · exact ⟨18, e, by decide⟩
      · exact ⟨_, List.mem_singleton.mp hv, by decide⟩
    obtain ⟨z, rfl, z16⟩ := hv
    have b59 : But l H5 H9 := (((b6.trans b7).trans b8).trans (same_new nW).but).trans b9
    have e1 := b59 _ _ t1l ht1'
    have e2 := b59 _ _ t2l ht2
    have ex := ((((b7.trans b8).trans (same_new nW).but).trans b9) : But l H6 H9) _ _ txl htx
    -- the two partings
    refine ⟨.ref t1, rfl, t1, _, rfl, .inr (.inl (.inl e1)), fun L1 nL1 => ?_⟩
    have hL1 : (upd H9 L1 (.lst (ns1.map nv))) L1 = some (.lst ((zs ns1).map V.int)) := by rw [upd_same, zs_int]
    refine fun p1 dx1 np1 nd1 hne1 => mkPart2 np1 nd1 (b := false) (SqL.of hL1) (by rw [List.length_map]; omega) (by rw [List.length_map]; omega) fun H10 s10 pa1 => ⟨rfl, ?_⟩
    have sA := (same_new nL1).trans s10
    refine ⟨.ref t2, rfl, fun p2 dx2 np2 nd2 hne2 => mkPart2 np2 nd2 (b := true) (sq_int (sA _ _ e2)) (by rw [List.length_map]; omega) (by rw [List.length_map]; omega) fun H11 s11 pa2 => ⟨rfl, ?_⟩⟩
    rw [show canon (zs ns1) = ns1 from nm1] at pa1
    rw [show canon (zs ns2) = ns2 from nm2] at pa2
    have sB := sA.trans s11
    have f1 := sB _ _ e1
    have f2 := sB _ _ e2
    have fx := sB _ _ ex
    have pb1 := pa1.same s11
    have l16a : ns1.length ≤ 16 := by omega
    have l16b : ns2.length ≤ 16 := by omega
    clear b59 sA sB s10 s11 e1 e2 ex pa1
    refine ⟨2, rfl, by decide, by decide, ?_⟩
    refine for_it walk_range (fun i σ H' => ∃ y1 y2 y3, σ = [some (.ref a), some (.ref l), some (.ref t1), some (.ref t2), some (.ref tx), some (nv n), some (.int r6), some (.int z), some (.ref p1), some (.ref p2), y1, y2, y3] ∧ Same H11 H') ⟨none, none, none, by rw [hn]; rfl, Same.refl H11⟩ (fun _ _ _ _ _ => trivial) ?_ ?_
    · rintro i x σ G0 G hi ⟨y1, y2, y3, rfl, sG⟩ ⟨rfl, ex⟩
      refine ⟨.ref p1, rfl, .ref t1, rfl, p1, t1, ns1, rfl, pb1.same sG, sG _ _ f1, l16a, fun G1 g1 => ⟨true, rfl, iteF ?_⟩⟩
      have sG1 := sG.trans g1
      refine ⟨.ref p2, rfl, .ref t2, rfl, p2, t2, ns2, rfl, pa2.same sG1, sG1 _ _ f2, l16b, fun G2 g2 => ⟨true, rfl, iteF ?_⟩⟩
      have sG2 := sG1.trans g2
      refine ⟨.ref tx, rfl, tx, xs, rfl, sG2 _ _ fx, hx, fun G3 g3 => ⟨true, rfl, iteF ?_⟩⟩
      have sG3 := sG2.trans g3
      clear sG1 sG2 g1 g2 g3
      refine ⟨nv n, rfl, (n : Int), rfl, fun _ _ G4 T L s4 nT nL LT hT pat => ?_, fun h => absurd h (by omega), fun h => absurd h (by omega), fun h => absurd h (by omega)⟩
      rw [Int.toNat_natCast] at pat
      refine ⟨.ref T, rfl, nv n, rfl, T, L, n, rfl, n15, n5, hT, pat, fun G5 s5 => ⟨true, rfl, iteF ?_⟩⟩
      have hT5 := s5 _ _ hT
      obtain ⟨ps, hL, pl, _⟩ := pat.same s5
      have nLB := sG3.free nL
      have cnt := allN_small n5
      refine ⟨.ref T, rfl, T, _, 1, _, rfl, rfl, .inl (.inl hT5), rfl, ?_⟩
      refine ⟨.ref L, rfl, .inl ⟨rfl, _, SqL.of hL⟩, .ref p2, rfl, L, _, .ref p2, rfl, rfl, hL, by rw [List.length_map]; exact Nat.lt_of_le_of_lt (show ps.length ≤ 52 by omega) (by decide), ?_⟩
      refine ⟨.ref p1, rfl, .ref L, rfl, L, _, 0, 0, rfl, rfl, upd_same, ?_, ?_⟩
      · unfold ixN
        rw [if_pos (by omega), if_pos (by rw [List.length_append]; show (0 : Int) < _; simp only [List.length_cons, List.length_nil]; omega)]
        rfl
      generalize hG6 : upd (upd G5 L (.lst (ps.map V.ref ++ [.ref p2]))) L _ = G6
      have sG6 : Same H11 G6 := by
        rw [← hG6]
        exact (((sG3.trans s4).trans s5).own nLB).own nLB
      -- the refusals
      refine ⟨.int r6, rfl, r6, rfl, fun h1 h2 => absurd h2 (by omega), fun h => absurd h (by omega), fun _ _ G7 T7 s7 nT7 told7 => ?_, fun h => absurd h (by omega)⟩
      refine ⟨by show 2 ≤ sizeLine; decide, fun E2 nE => ⟨by show 2 ≤ sizeLine; decide, fun D2 nD => ?_⟩⟩
      have ED : E2 ≠ D2 := ne_of_none upd_same nD
      have s8 := (same_new (o := .tup [.str "plots", .int 5]) nE).new (o := .tup [.str "TooMany", .ref E2]) nD
      refine ⟨_, _, rfl, sm_told (told7.same s8) upd_same (by rw [upd_ne ED]; exact upd_same) (by show 2 ≤ 1000; decide) (fun v hv => ?_), true, rfl, iteF ?_⟩
      · rcases List.mem_cons.mp hv with e | hv
        · rw [e]; exact .inr ⟨_, rfl, rfl⟩
        · rw [List.mem_singleton.mp hv]; exact .inl ⟨_, rfl, rfl⟩
      have sG8 := (sG6.trans s7).trans s8
      generalize upd (upd G7 E2 (.tup [.str "plots", .int 5])) D2 (.tup [.str "TooMany", .ref E2]) = G8 at sG8
      refine ⟨.int z, rfl, z, rfl, fun h1 h2 => absurd h2 (by omega), fun h => absurd h (by omega), fun h1 h2 => absurd h2 (by omega), fun _ G9 T9 s9 nT9 told9 => ?_⟩
      refine ⟨by show 2 ≤ sizeLine; decide, fun E3 nE3 => ⟨by show 2 ≤ sizeLine; decide, fun D3 nD3 => ?_⟩⟩
      have ED3 : E3 ≠ D3 := ne_of_none upd_same nD3
      have s10 := (same_new (o := .tup [.str "plots", .int 16]) nE3).new (o := .tup [.str "TooMany", .ref E3]) nD3
      refine ⟨_, _, rfl, sm_told (told9.same s10) upd_same (by rw [upd_ne ED3]; exact upd_same) (by show 2 ≤ 1000; decide) (fun v hv => ?_), true, rfl, iteF ?_⟩
      · rcases List.mem_cons.mp hv with e | hv
        · rw [e]; exact .inr ⟨_, rfl, rfl⟩
        · rw [List.mem_singleton.mp hv]; exact .inl ⟨_, rfl, rfl⟩
      have sG10 := (sG8.trans s9).trans s10
      generalize upd (upd G9 E3 (.tup [.str "plots", .int 16])) D3 (.tup [.str "TooMany", .ref E3]) = G10 at sG10
      refine ⟨0, rfl, fun h => absurd h (by omega), fun _ G11 T11 s11 nT11 told11 => ?_, fun h => absurd h (by omega), fun h => absurd h (by omega)⟩
      refine ⟨.int z, rfl, _, _, rfl, rfl, nv n, rfl, _, _, rfl, rfl, _, rfl, fun h => absurd h (by omega), fun _ G12 T12 s12 nT12 told12 => ?_, fun h => absurd h (by omega), fun h => absurd h (by omega)⟩
      refine ⟨by show 2 ≤ sizeLine; decide, fun LX nLX => ⟨by show 0 ≤ sizeLine; decide, fun A1 nA1 => ⟨by show 2 ≤ sizeLine; decide, fun B1 nB1 => ⟨by show 0 ≤ sizeLine; decide, fun A2 nA2 => ⟨by show 2 ≤ sizeLine; decide, fun B2 nB2 => ⟨by show 2 ≤ sizeLine; decide, fun LY nLY => ?_⟩⟩⟩⟩⟩⟩
      have k0 := same_new (o := .lst [.ref T11, .ref T12]) nLX
      have k1 := same_new (o := .tup []) nA1
      have k2 := same_new (o := .tup [.str "NoPlots", .ref A1]) nB1
      have k3 := same_new (o := .tup []) nA2
      have k4 := same_new (o := .tup [.str "NoPlots", .ref A2]) nB2
      have k5 := same_new (o := .lst [.ref B1, .ref B2]) nLY
      have k45 := k4.trans k5
      have k35 := k3.trans k45
      have k25 := k2.trans k35
      have k15 := k1.trans k25
      have k05 := k0.trans k15
      refine ⟨.ref LX, .ref LY, rfl, .inr ⟨LX, LY, _, _, rfl, rfl, .inr ⟨k15 _ _ upd_same, upd_same⟩, rfl, (by show 2 ≤ 1000; decide), fun j u v g1 g2 => ?_⟩, true, rfl, iteF ?_⟩
      · match j, g1, g2 with
        | 0, g1, g2 =>
          cases g1
          cases g2
          exact sm_told (told11.same (s12.trans k05)) (k35 _ _ upd_same) (k25 _ _ upd_same) (by show 0 ≤ 1000; decide) (fun v hv => by cases hv)
        | 1, g1, g2 =>
          cases g1
          cases g2
          exact sm_told (told12.same k05) (k5 _ _ upd_same) (k45 _ _ upd_same) (by show 0 ≤ 1000; decide) (fun v hv => by cases hv)
        | j + 2, g1, g2 => cases g1
      exact ⟨_, _, _, rfl, ((sG10.trans s11).trans s12).trans k05⟩
    · rintro σ G ⟨y1, y2, y3, rfl, sG⟩
      refine ⟨nv n, rfl, (n : Int), rfl, fun _ _ G4 T L s4 nT nL LT hT pat => ?_, fun h => absurd h (by omega), fun h => absurd h (by omega), fun h => absurd h (by omega)⟩
      rw [Int.toNat_natCast] at pat
      refine ⟨nv n, rfl, T, L, n, rfl, n15, n5, hT, pat, fun G5 s5 => ⟨true, rfl, iteT ?_⟩⟩
      obtain ⟨m, hm⟩ : ∃ m : Nat, n % 5 + 1 = m := ⟨_, rfl⟩
      have hv : [V.int ((n : Int) % 5 + 1)] = [V.int (m : Int)] := by rw [← hm]; rfl
      have hv2 : ∀ T6 : Addr, [V.ref T6, V.int ((n : Int) % 5 + 1)] = [V.ref T6, nv m] := fun T6 => by rw [← hm]; rfl
      have m1 : 1 ≤ m := by omega
      have m5 : m ≤ 5 := by omega
      refine ⟨nv n, rfl, .inl ⟨_, rfl, _, 5, rfl, rfl, (show (0 : Int) < 5 by decide), _, 1, rfl, rfl, ?_⟩⟩
      refine ⟨(m : Int), hv, fun _ _ G6 T6 L6 s6 nT6 nL6 LT6 hT6 pat6 => ?_, fun h => absurd h (by omega), fun h => absurd h (by omega), fun h => absurd h (by omega)⟩
      rw [Int.toNat_natCast] at pat6
      refine ⟨nv n, rfl, .inl ⟨_, rfl, _, 5, rfl, rfl, (show (0 : Int) < 5 by decide), _, 1, rfl, rfl, ?_⟩⟩
      exact ⟨T6, L6, m, hv2 T6, m1, m5, hT6, pat6, fun G7 s7 => q G7⟩
end
end Kw

set_option maxHeartbeats 0
/-! F1: what the top leaves behind: the facts, the Hook. Printed by gen_f1.py. -/
namespace Kw
open PySem PySem.Spec PyProof.Rows L2
open He (ga ma)
abbrev Fr1 : Type := PySem.W.Frag
def eqv (a b : Option (Option Value)) : Bool := decide (a = b)
def obj0 (v : Option (Option Value)) : Addr := match v with
  | some (some (.ref a)) => a
  | _ => 0
/-- the getter of the property f of Parting -/
def pp (K : Fr1) (f : Str) : Addr := obj0 (PySem.W.findIn K (.ref (ga K "Parting")) f)
def gp (K : Fr1) (f : Str) : Addr := match PySem.W.recIn K (pp K f) "property" with
  | some (.ref g :: _) => g
  | _ => 0
/-- the def of the classmethod m of Parting -/
def cp (K : Fr1) (m : Str) : Addr := match PySem.W.findCls K (.ref (ga K "Parting")) (.type "type") m with
  | some (.get _ (.ref p) _ _) => p
  | _ => 0
def gc (K : Fr1) (m : Str) : Addr := match PySem.W.recIn K (cp K m) "classmethod" with
  | some (.ref g :: _) => g
  | _ => 0
abbrev FnK : Type := Option (Str × Str × Arguments × FuncBody × Scope × Addr × List Str × Addr)
def fnK (K : Fr1) (a : Addr) : FnK := match K.lookup a with
  | some ⟨_, _, .func fd, _⟩ => some (fd.name, fd.qualname, fd.params, fd.body, fd.scope, fd.globals, fd.closure.map (·.1), fd.builtins)
  | _ => none
/-- one def: where it lies, what it says -/
structure FD where
  at_ : Fr1 → Addr
  name : Str
  qual : Str
  st : Stmt
  sup : Option Str
def FD.val (d : FD) : FnK := some (d.name, d.qual, defArgs d.st, .stmts (defBody d.st), defScope d.st, mainGlobals, match d.sup with
  | some _ => [("__class__" : Str)]
  | none => [], builtinsNs)
def mainFile : Str := PySem.Challenge.pw_crossmeans_k08_whole_written_partings.main.file
def fileB (vs : Array Value) : Bool := match (vs[2]? : Option Value) with
  | some (.str file _) => (mainFile == file)
  | _ => false
def codeFB (o : Option Obj) : Bool := match o with
  | some ⟨_, _, .fields vs, _⟩ => fileB vs
  | _ => false
def cellB (o : Option Obj) (C : Addr) : Bool := match o with
  | some ⟨_, _, .cell (some (.ref D)), _⟩ => decide (D = C)
  | _ => false
def supB (K : Fr1) (C : Addr) (fd : FuncData) : Bool := match fd.code, fd.closure with
  | .ref cda, [(_, cc)] => codeFB (K.lookup cda) && cellB (K.lookup cc) C
  | _, _ => false
def FD.ok (K : Fr1) (d : FD) : Bool := PySem.W.keepIn K (.ref (d.at_ K)) && (match K.lookup (d.at_ K) with
  | some ⟨_, _, .func fd, _⟩ => PySem.W.codeIn K fd.code d.qual && ((match fd.defaults with
    | .none => true
    | _ => false) && (match d.sup with
    | some C => supB K (ga K C) fd
    | none => true))
  | _ => false)
def oexB (K : Fr1) (C : Addr) : Bool := match K.lookup C with
  | some ⟨.type "type", _, .cls cd, sl⟩ => (match cd.mro, sl.toList with
    | .ref C' :: bm, [_, _, _, _, some (.builtin n), _] => decide (C' = C) && (decide (n = "ValueError.__new__") && (!cd.hasDel && (cd.hasDict && PySem.HandSPX.refsVE bm)))
    | _, _ => false)
  | _ => false
def oB (b : Option Bool) (c : Bool) : Bool := decide (b = some c)
def tB1 (a : Option Value) (v : Value) : Bool := decide (a = some v)
def fns : List FD := [
  ⟨fun K => ga K "is_whole", "is_whole", "is_whole", s_isWhole, none⟩,
  ⟨fun K => ga K "is_label", "is_label", "is_label", s_isLabel, none⟩,
  ⟨fun K => ga K "is_plot", "is_plot", "is_plot", s_isPlot, none⟩,
  ⟨fun K => ga K "need_plots", "need_plots", "need_plots", s_needPlots, none⟩,
  ⟨fun K => ga K "need_labels", "need_labels", "need_labels", s_needLabels, none⟩,
  ⟨fun K => ga K "least_plots", "least_plots", "least_plots", s_leastPlots, none⟩,
  ⟨fun K => ga K "named_lots", "named_lots", "named_lots", s_namedLots, none⟩,
  ⟨fun K => ga K "parting_text", "parting_text", "parting_text", s_partingText, none⟩,
  ⟨fun K => ga K "word_plot", "word_plot", "word_plot", s_wordPlot, none⟩,
  ⟨fun K => ga K "read_parting", "read_parting", "read_parting", s_readParting, none⟩,
  ⟨fun K => ga K "all_partings", "all_partings", "all_partings", s_allPartings, none⟩,
  ⟨fun K => ga K "_law_store", "_law_store", "_law_store", s_store, none⟩,
  ⟨fun K => ga K "_law_mixed", "_law_mixed", "_law_mixed", s_mixed, none⟩,
  ⟨fun K => ga K "_law_take", "_law_take", "_law_take", s_take, none⟩,
  ⟨fun K => ga K "_law_once", "_law_once", "_law_once", s_once, none⟩,
  ⟨fun K => ga K "_law_pick", "_law_pick", "_law_pick", s_pick, none⟩,
  ⟨fun K => ga K "_law_between", "_law_between", "_law_between", s_between, none⟩,
  ⟨fun K => ga K "_law_sign", "_law_sign", "_law_sign", s_sign, none⟩,
  ⟨fun K => ga K "_law_text", "_law_text", "_law_text", s_ltext, none⟩,
  ⟨fun K => ga K "_law_benttext", "_law_benttext", "_law_benttext", s_bent, none⟩,
  ⟨fun K => ga K "_law_same", "_law_same", "_law_same", s_same, none⟩,
  ⟨fun K => ga K "_law_iswhole", "_law_iswhole", "_law_iswhole", s_iswhole, none⟩,
  ⟨fun K => ga K "_law_canon", "_law_canon", "_law_canon", s_canon, none⟩,
  ⟨fun K => ga K "_law_parting", "_law_parting", "_law_parting", s_lparting, none⟩,
  ⟨fun K => ga K "_law_lots", "_law_lots", "_law_lots", s_llots, none⟩,
  ⟨fun K => ga K "_law_partingtext", "_law_partingtext", "_law_partingtext", s_ptext, none⟩,
  ⟨fun K => ga K "_law_badpartingtext", "_law_badpartingtext", "_law_badpartingtext", s_badtext, none⟩,
  ⟨fun K => ga K "_law_reads", "_law_reads", "_law_reads", s_reads, none⟩,
  ⟨fun K => ga K "_law_texts", "_law_texts", "_law_texts", s_texts, none⟩,
  ⟨fun K => ga K "_law_refusal", "_law_refusal", "_law_refusal", s_refusal, none⟩,
  ⟨fun K => ga K "_law_read", "_law_read", "_law_read", s_read, none⟩,
  ⟨fun K => ga K "_law_listed", "_law_listed", "_law_listed", s_listed, none⟩,
  ⟨fun K => ga K "_law_isparting", "_law_isparting", "_law_isparting", s_isparting, none⟩,
  ⟨fun K => ga K "_law_readsright", "_law_readsright", "_law_readsright", s_readsright, none⟩,
  ⟨fun K => ga K "_law_isname_row", "_law_isname_row", "_law_isname_row", s_isrow, none⟩,
  ⟨fun K => ga K "_law_isall", "_law_isall", "_law_isall", s_isall, none⟩,
  ⟨fun K => ga K "law", "law", "law", s_law, none⟩,
  ⟨fun K => He.ma K (ga K "Parting") "__init__", "__init__", "Parting.__init__", s_pInit, none⟩,
  ⟨fun K => gp K "plots", "plots", "Parting.plots", s_pPlots, none⟩,
  ⟨fun K => gp K "names", "names", "Parting.names", s_pNames, none⟩,
  ⟨fun K => gp K "lots", "lots", "Parting.lots", s_pLots, none⟩,
  ⟨fun K => gc K "from_lots", "from_lots", "Parting.from_lots", s_fromLots, none⟩,
  ⟨fun K => ma K (ga K "BadLots") "__init__", "__init__", "BadLots.__init__", s_badLots, some "BadLots"⟩,
  ⟨fun K => ma K (ga K "BadText") "__init__", "__init__", "BadText.__init__", s_badText, some "BadText"⟩,
  ⟨fun K => ma K (ga K "TooMany") "__init__", "__init__", "TooMany.__init__", s_tooMany, some "TooMany"⟩]
def fa0 : List (Fr1 → Bool) := [
  fun K => eqv (PySem.W.nsIn K mainGlobals "is_whole") (some (some (.ref (ga K "is_whole")))),
  fun K => eqv (PySem.W.nsIn K mainGlobals "is_label") (some (some (.ref (ga K "is_label")))),
  fun K => eqv (PySem.W.nsIn K mainGlobals "is_plot") (some (some (.ref (ga K "is_plot")))),
  fun K => eqv (PySem.W.nsIn K mainGlobals "need_plots") (some (some (.ref (ga K "need_plots")))),
  fun K => eqv (PySem.W.nsIn K mainGlobals "need_labels") (some (some (.ref (ga K "need_labels")))),
  fun K => eqv (PySem.W.nsIn K mainGlobals "least_plots") (some (some (.ref (ga K "least_plots")))),
  fun K => eqv (PySem.W.nsIn K mainGlobals "named_lots") (some (some (.ref (ga K "named_lots")))),
  fun K => eqv (PySem.W.nsIn K mainGlobals "parting_text") (some (some (.ref (ga K "parting_text")))),
  fun K => eqv (PySem.W.nsIn K mainGlobals "word_plot") (some (some (.ref (ga K "word_plot")))),
  fun K => eqv (PySem.W.nsIn K mainGlobals "read_parting") (some (some (.ref (ga K "read_parting")))),
  fun K => eqv (PySem.W.nsIn K mainGlobals "all_partings") (some (some (.ref (ga K "all_partings")))),
  fun K => eqv (PySem.W.nsIn K mainGlobals "_law_store") (some (some (.ref (ga K "_law_store")))),
  fun K => eqv (PySem.W.nsIn K mainGlobals "_law_mixed") (some (some (.ref (ga K "_law_mixed")))),
  fun K => eqv (PySem.W.nsIn K mainGlobals "_law_take") (some (some (.ref (ga K "_law_take")))),
  fun K => eqv (PySem.W.nsIn K mainGlobals "_law_once") (some (some (.ref (ga K "_law_once")))),
  fun K => eqv (PySem.W.nsIn K mainGlobals "_law_pick") (some (some (.ref (ga K "_law_pick")))),
  fun K => eqv (PySem.W.nsIn K mainGlobals "_law_between") (some (some (.ref (ga K "_law_between")))),
  fun K => eqv (PySem.W.nsIn K mainGlobals "_law_sign") (some (some (.ref (ga K "_law_sign")))),
  fun K => eqv (PySem.W.nsIn K mainGlobals "_law_text") (some (some (.ref (ga K "_law_text")))),
  fun K => eqv (PySem.W.nsIn K mainGlobals "_law_benttext") (some (some (.ref (ga K "_law_benttext"))))]
def fa1 : List (Fr1 → Bool) := [
  fun K => eqv (PySem.W.nsIn K mainGlobals "_law_same") (some (some (.ref (ga K "_law_same")))),
  fun K => eqv (PySem.W.nsIn K mainGlobals "_law_iswhole") (some (some (.ref (ga K "_law_iswhole")))),
  fun K => eqv (PySem.W.nsIn K mainGlobals "_law_canon") (some (some (.ref (ga K "_law_canon")))),
  fun K => eqv (PySem.W.nsIn K mainGlobals "_law_parting") (some (some (.ref (ga K "_law_parting")))),
  fun K => eqv (PySem.W.nsIn K mainGlobals "_law_lots") (some (some (.ref (ga K "_law_lots")))),
  fun K => eqv (PySem.W.nsIn K mainGlobals "_law_partingtext") (some (some (.ref (ga K "_law_partingtext")))),
  fun K => eqv (PySem.W.nsIn K mainGlobals "_law_badpartingtext") (some (some (.ref (ga K "_law_badpartingtext")))),
  fun K => eqv (PySem.W.nsIn K mainGlobals "_law_reads") (some (some (.ref (ga K "_law_reads")))),
  fun K => eqv (PySem.W.nsIn K mainGlobals "_law_texts") (some (some (.ref (ga K "_law_texts")))),
  fun K => eqv (PySem.W.nsIn K mainGlobals "_law_refusal") (some (some (.ref (ga K "_law_refusal")))),
  fun K => eqv (PySem.W.nsIn K mainGlobals "_law_read") (some (some (.ref (ga K "_law_read")))),
  fun K => eqv (PySem.W.nsIn K mainGlobals "_law_listed") (some (some (.ref (ga K "_law_listed")))),
  fun K => eqv (PySem.W.nsIn K mainGlobals "_law_isparting") (some (some (.ref (ga K "_law_isparting")))),
  fun K => eqv (PySem.W.nsIn K mainGlobals "_law_readsright") (some (some (.ref (ga K "_law_readsright")))),
  fun K => eqv (PySem.W.nsIn K mainGlobals "_law_isname_row") (some (some (.ref (ga K "_law_isname_row")))),
  fun K => eqv (PySem.W.nsIn K mainGlobals "_law_isall") (some (some (.ref (ga K "_law_isall")))),
  fun K => eqv (PySem.W.nsIn K mainGlobals "law") (some (some (.ref (ga K "law")))),
  fun K => eqv (PySem.W.nsIn K mainGlobals "CrossError") (some (some (.ref (ga K "CrossError")))),
  fun K => eqv (PySem.W.nsIn K mainGlobals "InputError") (some (some (.ref (ga K "InputError")))),
  fun K => eqv (PySem.W.nsIn K mainGlobals "LimitError") (some (some (.ref (ga K "LimitError"))))]
def fa2 : List (Fr1 → Bool) := [
  fun K => eqv (PySem.W.nsIn K mainGlobals "AnswerError") (some (some (.ref (ga K "AnswerError")))),
  fun K => eqv (PySem.W.nsIn K mainGlobals "NoPlots") (some (some (.ref (ga K "NoPlots")))),
  fun K => eqv (PySem.W.nsIn K mainGlobals "BadLabel") (some (some (.ref (ga K "BadLabel")))),
  fun K => eqv (PySem.W.nsIn K mainGlobals "BadPlot") (some (some (.ref (ga K "BadPlot")))),
  fun K => eqv (PySem.W.nsIn K mainGlobals "BadLots") (some (some (.ref (ga K "BadLots")))),
  fun K => eqv (PySem.W.nsIn K mainGlobals "BadText") (some (some (.ref (ga K "BadText")))),
  fun K => eqv (PySem.W.nsIn K mainGlobals "TooMany") (some (some (.ref (ga K "TooMany")))),
  fun K => eqv (PySem.W.nsIn K mainGlobals "Parting") (some (some (.ref (ga K "Parting")))),
  fun K => eqv (PySem.W.nsIn K mainGlobals "PLOT_WORDS") (some (some (.ref (ga K "PLOT_WORDS")))),
  fun K => eqv (PySem.W.nsIn K mainGlobals "isinstance") (some none),
  fun K => eqv (PySem.W.nsIn K mainGlobals "int") (some none),
  fun K => eqv (PySem.W.nsIn K mainGlobals "bool") (some none),
  fun K => eqv (PySem.W.nsIn K mainGlobals "str") (some none),
  fun K => eqv (PySem.W.nsIn K mainGlobals "tuple") (some none),
  fun K => eqv (PySem.W.nsIn K mainGlobals "list") (some none),
  fun K => eqv (PySem.W.nsIn K mainGlobals "len") (some none),
  fun K => eqv (PySem.W.nsIn K mainGlobals "enumerate") (some none),
  fun K => eqv (PySem.W.nsIn K mainGlobals "range") (some none),
  fun K => eqv (PySem.W.nsIn K mainGlobals "abs") (some none),
  fun K => eqv (PySem.W.nsIn K mainGlobals "min") (some none)]
def fa3 : List (Fr1 → Bool) := [
  fun K => eqv (PySem.W.nsIn K mainGlobals "sum") (some none),
  fun K => eqv (PySem.W.nsIn K mainGlobals "sorted") (some none),
  fun K => eqv (PySem.W.nsIn K mainGlobals "ValueError") (some none),
  fun K => eqv (PySem.W.nsIn K mainGlobals "super") (some none),
  fun K => (He.Fa.int "MOST_PLOTS" 16).ok K,
  fun K => (He.Fa.int "MOST_LISTED" 5).ok K,
  fun K => He.tupB K "PLOT_WORDS" ((List.range 16).map fun k => He.Dv.str (Str.ofString (toString k))),
  fun K => (match K.lookup (ga K "PLOT_WORDS") with
  | some ⟨.type c, none, _, _⟩ => decide (c = "tuple")
  | _ => false),
  fun K => (He.Fa.cls "Parting").ok K,
  fun K => (He.Fa.noat "Parting" "own_names").ok K,
  fun K => (He.Fa.noat "Parting" "own_lots").ok K,
  fun K => (He.Fa.mkr "Parting").ok K,
  fun K => eqv (PySem.W.findIn K (.ref (ga K "Parting")) "plots") (some (some (.ref (pp K "plots")))),
  fun K => eqv (PySem.W.specialIn K (.ref (pp K "plots")) "__get__") (some (some (.builtin "property.__get__"))),
  fun K => oB (PySem.W.takesIn K (.ref (pp K "plots"))) true,
  fun K => (match PySem.W.recIn K (pp K "plots") "property" with
  | some (.ref _ :: _) => true
  | _ => false),
  fun K => eqv (PySem.W.findIn K (.ref (ga K "Parting")) "names") (some (some (.ref (pp K "names")))),
  fun K => eqv (PySem.W.specialIn K (.ref (pp K "names")) "__get__") (some (some (.builtin "property.__get__"))),
  fun K => oB (PySem.W.takesIn K (.ref (pp K "names"))) true,
  fun K => (match PySem.W.recIn K (pp K "names") "property" with
  | some (.ref _ :: _) => true
  | _ => false)]
def fa4 : List (Fr1 → Bool) := [
  fun K => eqv (PySem.W.findIn K (.ref (ga K "Parting")) "lots") (some (some (.ref (pp K "lots")))),
  fun K => eqv (PySem.W.specialIn K (.ref (pp K "lots")) "__get__") (some (some (.builtin "property.__get__"))),
  fun K => oB (PySem.W.takesIn K (.ref (pp K "lots"))) true,
  fun K => (match PySem.W.recIn K (pp K "lots") "property" with
  | some (.ref _ :: _) => true
  | _ => false),
  fun K => PySem.W.readsIn K (ga K "Parting") (.type "type"),
  fun K => eqv (PySem.W.specialIn K (.ref (ga K "Parting")) "__getattribute__") (some (some (.builtin "type.__getattribute__"))),
  fun K => (match PySem.W.findCls K (.ref (ga K "Parting")) (.type "type") "from_lots" with
  | some (.get (.builtin g) (.ref _) .none (.ref C)) => decide (g = "classmethod.__get__") && decide (C = (ga K "Parting"))
  | _ => false),
  fun K => (match PySem.W.recIn K (cp K "from_lots") "classmethod" with
  | some (.ref _ :: _) => true
  | _ => false),
  fun K => PySem.W.fnIn K (gc K "from_lots"),
  fun K => eqv (PySem.W.findIn K (.ref (ga K "Parting")) "__class__") (some (some (.builtin "object.__class__"))),
  fun K => eqv (PySem.W.specialIn K (.builtin "object.__class__") "__get__") (some (some (.builtin "getset_descriptor.__get__"))),
  fun K => oB (PySem.W.takesIn K (.builtin "object.__class__")) true,
  fun K => oB (PySem.W.mroIn K (ga K "Parting") (.type "object")) true,
  fun K => oB (PySem.W.kitOne K (.ref (ga K "Parting")) (.ref (ga K "Parting"))) true,
  fun K => eqv (PySem.W.nsIn K cStatics "thirdparty.any") (some none),
  fun K => PySem.W.excIn K (ga K "NoPlots") He.veBase "ValueError.__new__",
  fun K => PySem.W.keepIn K (.ref (ga K "NoPlots")),
  fun K => oB (PySem.W.subIn K (.ref (ga K "NoPlots")) (.type "BaseException")) true,
  fun K => tB1 (PySem.W.typeIn K (.ref (ga K "NoPlots"))) (.type "type"),
  fun K => PySem.W.keepIn K (.ref (ga K "BadLots"))]
def fa5 : List (Fr1 → Bool) := [
  fun K => oB (PySem.W.subIn K (.ref (ga K "BadLots")) (.type "BaseException")) true,
  fun K => tB1 (PySem.W.typeIn K (.ref (ga K "BadLots"))) (.type "type"),
  fun K => PySem.W.keepIn K (.ref (ga K "BadText")),
  fun K => oB (PySem.W.subIn K (.ref (ga K "BadText")) (.type "BaseException")) true,
  fun K => tB1 (PySem.W.typeIn K (.ref (ga K "BadText"))) (.type "type"),
  fun K => PySem.W.keepIn K (.ref (ga K "TooMany")),
  fun K => oB (PySem.W.subIn K (.ref (ga K "TooMany")) (.type "BaseException")) true,
  fun K => tB1 (PySem.W.typeIn K (.ref (ga K "TooMany"))) (.type "type"),
  fun K => oexB K (ga K "BadLots"),
  fun K => eqv (PySem.W.findIn K (.ref (ga K "BadLots")) "__setattr__") (some (some (.builtin "object.__setattr__"))),
  fun K => eqv (PySem.W.ks_superIn K (ga K "BadLots") (ga K "BadLots") "__init__") (some (some (.builtin "ValueError.__init__"))),
  fun K => oB (PySem.W.subIn K (.ref (ga K "BadLots")) (.type "ValueError")) true,
  fun K => oB (PySem.W.mroIn K (ga K "BadLots") (.ref (ga K "BadLots"))) true,
  fun K => eqv (PySem.W.findIn K (.ref (ga K "BadLots")) "__init__") (some (some (.ref (ma K (ga K "BadLots") "__init__")))),
  fun K => tB1 (PySem.W.typeIn K (.ref (ma K (ga K "BadLots") "__init__"))) (.type "function"),
  fun K => eqv (PySem.W.findIn K (.ref (ga K "BadLots")) "at") (some none),
  fun K => oexB K (ga K "BadText"),
  fun K => eqv (PySem.W.findIn K (.ref (ga K "BadText")) "__setattr__") (some (some (.builtin "object.__setattr__"))),
  fun K => eqv (PySem.W.ks_superIn K (ga K "BadText") (ga K "BadText") "__init__") (some (some (.builtin "ValueError.__init__"))),
  fun K => oB (PySem.W.subIn K (.ref (ga K "BadText")) (.type "ValueError")) true]
def fa6 : List (Fr1 → Bool) := [
  fun K => oB (PySem.W.mroIn K (ga K "BadText") (.ref (ga K "BadText"))) true,
  fun K => eqv (PySem.W.findIn K (.ref (ga K "BadText")) "__init__") (some (some (.ref (ma K (ga K "BadText") "__init__")))),
  fun K => tB1 (PySem.W.typeIn K (.ref (ma K (ga K "BadText") "__init__"))) (.type "function"),
  fun K => eqv (PySem.W.findIn K (.ref (ga K "BadText")) "text") (some none),
  fun K => oexB K (ga K "TooMany"),
  fun K => eqv (PySem.W.findIn K (.ref (ga K "TooMany")) "__setattr__") (some (some (.builtin "object.__setattr__"))),
  fun K => eqv (PySem.W.ks_superIn K (ga K "TooMany") (ga K "TooMany") "__init__") (some (some (.builtin "ValueError.__init__"))),
  fun K => oB (PySem.W.subIn K (.ref (ga K "TooMany")) (.type "ValueError")) true,
  fun K => oB (PySem.W.mroIn K (ga K "TooMany") (.ref (ga K "TooMany"))) true,
  fun K => eqv (PySem.W.findIn K (.ref (ga K "TooMany")) "__init__") (some (some (.ref (ma K (ga K "TooMany") "__init__")))),
  fun K => tB1 (PySem.W.typeIn K (.ref (ma K (ga K "TooMany") "__init__"))) (.type "function"),
  fun K => eqv (PySem.W.findIn K (.ref (ga K "TooMany")) "what") (some none),
  fun K => eqv (PySem.W.findIn K (.ref (ga K "TooMany")) "limit") (some none),
  fun K => oB (PySem.W.exmOne K (.ref (ga K "BadLots")) (.ref (ga K "BadLots"))) true,
  fun K => eqv (PySem.W.findIn K (.ref (ga K "NoPlots")) "__getattribute__") (some (some (.builtin "BaseException.__getattribute__"))),
  fun K => eqv (PySem.W.findIn K (.ref (ga K "NoPlots")) "__getattr__") (some none),
  fun K => PySem.W.hasDictIn K (ga K "NoPlots"),
  fun K => eqv (PySem.W.findIn K (.ref (ga K "NoPlots")) "__class__") (some (some (.builtin "object.__class__"))),
  fun K => oB (PySem.W.mroIn K (ga K "NoPlots") (.type "object")) true,
  fun K => eqv (PySem.W.findIn K (.ref (ga K "NoPlots")) "what") (some none)]
def fa7 : List (Fr1 → Bool) := [
  fun K => eqv (PySem.W.findIn K (.ref (ga K "NoPlots")) "limit") (some none),
  fun K => eqv (PySem.W.findIn K (.ref (ga K "NoPlots")) "text") (some none),
  fun K => oB (PySem.W.kitOne K (.ref (ga K "NoPlots")) (.ref (ga K "AnswerError"))) false,
  fun K => oB (PySem.W.kitOne K (.ref (ga K "NoPlots")) (.ref (ga K "BadLots"))) false,
  fun K => oB (PySem.W.kitOne K (.ref (ga K "NoPlots")) (.ref (ga K "BadPlot"))) false,
  fun K => oB (PySem.W.kitOne K (.ref (ga K "NoPlots")) (.ref (ga K "BadLabel"))) false,
  fun K => oB (PySem.W.kitOne K (.ref (ga K "NoPlots")) (.ref (ga K "NoPlots"))) true,
  fun K => oB (PySem.W.kitOne K (.ref (ga K "NoPlots")) (.ref (ga K "TooMany"))) false,
  fun K => oB (PySem.W.kitOne K (.ref (ga K "NoPlots")) (.ref (ga K "BadText"))) false,
  fun K => oB (PySem.W.kitOne K (.ref (ga K "NoPlots")) (.ref (ga K "LimitError"))) false,
  fun K => oB (PySem.W.kitOne K (.ref (ga K "NoPlots")) (.ref (ga K "InputError"))) true,
  fun K => oB (PySem.W.kitOne K (.ref (ga K "NoPlots")) (.type "ValueError")) true,
  fun K => oB (PySem.W.exmOne K (.ref (ga K "NoPlots")) (.ref (ga K "CrossError"))) true,
  fun K => eqv (PySem.W.findIn K (.ref (ga K "TooMany")) "__getattribute__") (some (some (.builtin "BaseException.__getattribute__"))),
  fun K => eqv (PySem.W.findIn K (.ref (ga K "TooMany")) "__getattr__") (some none),
  fun K => PySem.W.hasDictIn K (ga K "TooMany"),
  fun K => eqv (PySem.W.findIn K (.ref (ga K "TooMany")) "__class__") (some (some (.builtin "object.__class__"))),
  fun K => oB (PySem.W.mroIn K (ga K "TooMany") (.type "object")) true,
  fun K => eqv (PySem.W.findIn K (.ref (ga K "TooMany")) "what") (some none),
  fun K => eqv (PySem.W.findIn K (.ref (ga K "TooMany")) "limit") (some none)]
def fa8 : List (Fr1 → Bool) := [
  fun K => eqv (PySem.W.findIn K (.ref (ga K "TooMany")) "text") (some none),
  fun K => oB (PySem.W.kitOne K (.ref (ga K "TooMany")) (.ref (ga K "AnswerError"))) false,
  fun K => oB (PySem.W.kitOne K (.ref (ga K "TooMany")) (.ref (ga K "BadLots"))) false,
  fun K => oB (PySem.W.kitOne K (.ref (ga K "TooMany")) (.ref (ga K "BadPlot"))) false,
  fun K => oB (PySem.W.kitOne K (.ref (ga K "TooMany")) (.ref (ga K "BadLabel"))) false,
  fun K => oB (PySem.W.kitOne K (.ref (ga K "TooMany")) (.ref (ga K "NoPlots"))) false,
  fun K => oB (PySem.W.kitOne K (.ref (ga K "TooMany")) (.ref (ga K "TooMany"))) true,
  fun K => oB (PySem.W.kitOne K (.ref (ga K "TooMany")) (.ref (ga K "BadText"))) false,
  fun K => oB (PySem.W.kitOne K (.ref (ga K "TooMany")) (.ref (ga K "LimitError"))) true,
  fun K => oB (PySem.W.kitOne K (.ref (ga K "TooMany")) (.ref (ga K "InputError"))) false,
  fun K => oB (PySem.W.kitOne K (.ref (ga K "TooMany")) (.type "ValueError")) true,
  fun K => oB (PySem.W.exmOne K (.ref (ga K "TooMany")) (.ref (ga K "CrossError"))) true,
  fun K => eqv (PySem.W.findIn K (.ref (ga K "BadText")) "__getattribute__") (some (some (.builtin "BaseException.__getattribute__"))),
  fun K => eqv (PySem.W.findIn K (.ref (ga K "BadText")) "__getattr__") (some none),
  fun K => PySem.W.hasDictIn K (ga K "BadText"),
  fun K => eqv (PySem.W.findIn K (.ref (ga K "BadText")) "__class__") (some (some (.builtin "object.__class__"))),
  fun K => oB (PySem.W.mroIn K (ga K "BadText") (.type "object")) true,
  fun K => eqv (PySem.W.findIn K (.ref (ga K "BadText")) "what") (some none),
  fun K => eqv (PySem.W.findIn K (.ref (ga K "BadText")) "limit") (some none),
  fun K => eqv (PySem.W.findIn K (.ref (ga K "BadText")) "text") (some none)]
def fa9 : List (Fr1 → Bool) := [
  fun K => oB (PySem.W.kitOne K (.ref (ga K "BadText")) (.ref (ga K "AnswerError"))) false,
  fun K => oB (PySem.W.kitOne K (.ref (ga K "BadText")) (.ref (ga K "BadLots"))) false,
  fun K => oB (PySem.W.kitOne K (.ref (ga K "BadText")) (.ref (ga K "BadPlot"))) false,
  fun K => oB (PySem.W.kitOne K (.ref (ga K "BadText")) (.ref (ga K "BadLabel"))) false,
  fun K => oB (PySem.W.kitOne K (.ref (ga K "BadText")) (.ref (ga K "NoPlots"))) false,
  fun K => oB (PySem.W.kitOne K (.ref (ga K "BadText")) (.ref (ga K "TooMany"))) false,
  fun K => oB (PySem.W.kitOne K (.ref (ga K "BadText")) (.ref (ga K "BadText"))) true,
  fun K => oB (PySem.W.kitOne K (.ref (ga K "BadText")) (.ref (ga K "LimitError"))) false,
  fun K => oB (PySem.W.kitOne K (.ref (ga K "BadText")) (.ref (ga K "InputError"))) true,
  fun K => oB (PySem.W.kitOne K (.ref (ga K "BadText")) (.type "ValueError")) true,
  fun K => oB (PySem.W.exmOne K (.ref (ga K "BadText")) (.ref (ga K "CrossError"))) true]
def fas : List (Fr1 → Bool) := fa0 ++ fa1 ++ fa2 ++ fa3 ++ fa4 ++ fa5 ++ fa6 ++ fa7 ++ fa8 ++ fa9
abbrev Al1 : Type := Bool × List FnK
def obsF (K : Fr1) : Al1 := ((fas.all fun f => f K) && fns.all fun d => d.ok K, fns.map fun d => fnK K (d.at_ K))
def valF : Al1 := (true, fns.map FD.val)
def SaysF (K : Fr1) : Prop := obsF K = valF
def asF (g : Addr → Option Obj) : Nat → List Addr
  | 0 => [mainGlobals, cStatics]
  | n + 1 => He.growD g (asF g n)
def obsFG (g : Addr → Option Obj) : Al1 := obsF (He.frG g (asF g 6))
def hookF : PySem.W.Hook where
  α := Al1
  obs := fun s => obsFG s.heap.get?
  val := fun _ => valF
  says := fun _ h => ∃ K : PySem.W.Frag, K.In h ∧ SaysF K
  of := fun _ _ e => ⟨_, He.frG_in, e⟩
  keeps := fun _ _ _ ⟨K, hK, c⟩ k => ⟨K, PySem.W.Frag.In.keeps hK k, c⟩
def obF (s : PySem.W.SharedT) : Al1 := obsFG (HandSHeadRun.getT s)
theorem obF_eq (s : PySem.W.SharedT) : obF s = hookF.obs s.abs := by
  have e : HandSHeadRun.getT s = s.abs.heap.get? := funext (HandSHeadRun.getT_eq s)
  show obsFG (HandSHeadRun.getT s) = obsFG s.abs.heap.get?
  rw [e]
end Kw

set_option maxHeartbeats 0
/-! F2: the run of the top. -/
namespace Kw
open PySem PySem.Spec PyProof.Rows L2
abbrev Rw : PySem.W.OpenRow := PySem.W.OpenLaw.row PySem.Challenge.rw_crossmeans_k08_whole_written_partings
abbrev Vw : PySem.Program := PySem.W.view Rw.prog [57]
def loo0 : List Str := ["_wall", "CrossError", "InputError", "LimitError", "AnswerError", "NoPlots", "UnlikePlots", "BadLabel", "BadPlot", "BadLots", "BadText", "TooMany", "MOST_PLOTS", "MOST_LISTED"]
def loo1 : List Str := ["PLOT_WORDS", "is_whole", "is_label", "is_plot", "need_plots", "need_like_plots", "need_labels", "least_plots", "named_lots", "joined_labels", "Parting", "parting_text", "word_plot", "read_parting"]
def loo2 : List Str := ["all_partings", "_law_store", "_law_mixed", "_law_take", "_law_once", "_law_pick", "_law_between", "_law_sign", "_law_text", "_law_benttext", "_law_same", "_law_iswhole", "_law_canon", "_law_parting"]
def loo3 : List Str := ["_law_lots", "_law_partingtext", "_law_badpartingtext", "_law_reads", "_law_texts", "_law_refusal", "_law_read", "_law_listed", "_law_isparting", "_law_readsright", "_law_isname_row", "_law_isall"]
abbrev loo : List Str := loo0 ++ loo1 ++ loo2 ++ loo3
theorem runF (w : World) : HandSHeadRun.RunEq Rw Vw hookF obF 12000 loo w := by
  intro os
  kernel_rfl
end Kw

set_option maxHeartbeats 4000000
/-! G1: from what the Hook saw to facts. -/
namespace Kw
open PySem PySem.Spec PyProof.Rows L2 L2H
open He (ga ma)
theorem ba {a b : Bool} (h : (a && b) = true) : a = true ∧ b = true := Bool.and_eq_true_iff.mp h
theorem eqv_ok {a b : Option (Option Value)} (h : eqv a b = true) : a = b := of_decide_eq_true h
theorem oB_ok {a : Option Bool} {b : Bool} (h : oB a b = true) : a = some b := of_decide_eq_true h
theorem tB_ok {a : Option Value} {b : Value} (h : tB1 a b = true) : a = some b := of_decide_eq_true h
section
variable {K : PySem.W.Frag}
theorem SaysF.fact (c : SaysF K) (i : Nat) {f : Fr1 → Bool} (h : fas[i]? = some f := by rfl) : f K = true :=
  List.all_eq_true.mp (ba (show ((fas.all fun f => f K) && fns.all fun d => d.ok K) = true from congrArg (fun z : Al1 => z.1) c)).1 f (List.mem_of_getElem? h)
theorem SaysF.ok_ (c : SaysF K) (i : Nat) {d : FD} (h : fns[i]? = some d) : d.ok K = true :=
  List.all_eq_true.mp (ba (show ((fas.all fun f => f K) && fns.all fun d => d.ok K) = true from congrArg (fun z : Al1 => z.1) c)).2 d (List.mem_of_getElem? h)
theorem SaysF.val_ (c : SaysF K) (i : Nat) {d : FD} (h : fns[i]? = some d) : fnK K (d.at_ K) = d.val := by
  have e : (fns.map fun d => fnK K (d.at_ K)) = fns.map FD.val := congrArg (fun z : Al1 => z.2) c
  have e2 : (fns.map fun d => fnK K (d.at_ K))[i]? = (fns.map FD.val)[i]? := by rw [e]
  rw [List.getElem?_map, List.getElem?_map, h] at e2
  exact Option.some.inj e2
theorem fnK_some {a : Addr} {n q : Str} {pr : Arguments} {b : FuncBody} {sc : Scope} {g : Addr} {cl : List Str} {bi : Addr} (e : fnK K a = some (n, q, pr, b, sc, g, cl, bi)) :
    ∃ (oc : Value) (od : Option Addr) (fd : FuncData) (osl : Array (Option Value)), K.lookup a = some ⟨oc, od, .func fd, osl⟩ ∧ fd.name = n ∧ fd.qualname = q ∧ fd.params = pr ∧ fd.body = b ∧ fd.scope = sc ∧ fd.globals = g ∧ fd.closure.map (·.1) = cl ∧ fd.builtins = bi := by
  unfold fnK at e
  split at e
  · rename_i oc od fd osl h
    have e2 := Option.some.inj e
    injection e2 with e1 e2
    injection e2 with e3 e2
    injection e2 with e4 e2
    injection e2 with e5 e2
    injection e2 with e6 e2
    injection e2 with e7 e2
    injection e2 with e8 e9
    exact ⟨oc, od, fd, osl, h, e1, e3, e4, e5, e6, e7, e8, e9⟩
  · cases e
theorem FD.ok_of {d : FD} {oc : Value} {od : Option Addr} {fd : FuncData} {osl : Array (Option Value)} (ok : d.ok K = true) (lk : K.lookup (d.at_ K) = some ⟨oc, od, .func fd, osl⟩) :
    PySem.W.keepIn K (.ref (d.at_ K)) = true ∧ PySem.W.codeIn K fd.code d.qual = true ∧ fd.defaults = .none ∧ (∀ C, d.sup = some C → supB K (ga K C) fd = true) := by
  unfold FD.ok at ok
  rw [lk] at ok
  obtain ⟨k, ok⟩ := ba ok
  obtain ⟨c, ok⟩ := ba ok
  obtain ⟨df, sp⟩ := ba ok
  refine ⟨k, c, ?_, fun C hC => ?_⟩
  · revert df
    cases fd.defaults <;> intro df <;> first | rfl | cases df
  · rw [hC] at sp
    exact sp
/-- a def of the fragment -/
theorem SaysF.fun_ (c : SaysF K) (i : Nat) {at_ : Fr1 → Addr} {x qual : Str} {st : Stmt} (h : fns[i]? = some ⟨at_, x, qual, st, none⟩ := by rfl) : ∃ fd, L2.Fun K x qual st (at_ K) fd := by
  obtain ⟨oc, od, fd, osl, lk, e1, e2, e3, e4, e5, e6, e7, e8⟩ := fnK_some (c.val_ i h)
  obtain ⟨kp, cd, df, _⟩ := FD.ok_of (c.ok_ i h) lk
  obtain ⟨nm, ql, pr, bd, sc, gl, cl, dfv, kwd, doc, pm, an, cdv, ct, bi⟩ := fd
  simp only at e1 e2 e3 e4 e5 e6 e7 e8 cd df
  have ecl : cl = [] := List.map_eq_nil_iff.mp e7
  subst e1 e2 e3 e4 e5 e6 e8 ecl df
  exact ⟨_, ⟨oc, od, kwd, doc, pm, an, cdv, ct, osl, rfl, lk, cd⟩, kp⟩
/-- a def that asks super() -/
theorem SaysF.sup_ (c : SaysF K) (i : Nat) {at_ : Fr1 → Addr} {qual C : Str} {st : Stmt} {P : Program} (hP : P.main.file = mainFile) (h : fns[i]? = some ⟨at_, "__init__", qual, st, some C⟩ := by rfl) : ∃ fd, SupFn P K (ga K C) qual st (at_ K) fd := by
  obtain ⟨oc, od, fd, osl, lk, e1, e2, e3, e4, e5, e6, e7, e8⟩ := fnK_some (c.val_ i h)
  obtain ⟨kp, cd, df, sp0⟩ := FD.ok_of (c.ok_ i h) lk
  have sp := sp0 C rfl
  clear sp0
  obtain ⟨nm, ql, pr, bd, sc, gl, cl, dfv, kwd, doc, pm, an, cdv, ct, bi⟩ := fd
  simp only at e1 e2 e3 e4 e5 e6 e7 e8 cd df
  unfold supB at sp
  simp only at sp
  subst e1 e2 e3 e4 e5 e6 e8 df
  split at sp
  · rename_i cda xn cc
    obtain ⟨s1, s2⟩ := ba sp
    have en : xn = ("__class__" : Str) := by
      have : [xn] = [("__class__" : Str)] := e7
      exact List.cons.inj this |>.1
    subst en
    refine ⟨_, oc, od, kwd, doc, pm, an, cda, cc, ct, osl, rfl, lk, cd, ?_, ?_⟩
    · unfold codeFB at s1
      split at s1
      · rename_i ccl cdd vs ccs hk
        unfold fileB at s1
        split at s1
        · rename_i file tf hv
          exact ⟨ccl, cdd, vs, ccs, file, tf, hk, hv, by rw [hP]; exact s1⟩
        · cases s1
      · cases s1
    · unfold cellB at s2
      split at s2
      · rename_i cl cld D csl hk
        have eD := of_decide_eq_true s2
        rw [← eD]
        exact ⟨cl, cld, csl, hk⟩
      · cases s2
  · cases sp
theorem SupFn.binds {P : Program} {C f : Addr} {qual : Str} {st : Stmt} {fd : FuncData} {ps : List Str} (F : SupFn P K C qual st f fd)
    (h : ∀ (kV doc pm : Value) (an : Option Addr) (cda cc : Addr) (ct : Value) (us : List Value), us.length = ps.length → bindArgs (PySem.W.fnX "__init__" qual (defArgs st) (defBody st) (defScope st) [("__class__", cc)] .none kV doc pm an (.ref cda) ct) ⟨us, []⟩ = pure (ps.zip us)) : Binds K fd ps [] := by
  obtain ⟨oc, od, kV, doc, pm, an, cda, cc, ct, osl, rfl, _⟩ := F.ex
  exact .all (h kV doc pm an cda cc ct)
theorem oex_of {C : Addr} (h : oexB K C = true) (sa : PySem.W.findIn K (.ref C) "__setattr__" = some (some (.builtin "object.__setattr__"))) (be : PySem.W.subIn K (.ref C) (.type "BaseException") = some true) (ty : PySem.W.typeIn K (.ref C) = some (.type "type")) (kp : PySem.W.keepIn K (.ref C) = true) : OexC K C := by
  refine ⟨?_, sa, be, ty, kp⟩
  unfold oexB at h
  split at h
  · rename_i od cd sl lk
    split at h
    · rename_i C' bm k0 k1 k2 k3 n k5 hm hs
      obtain ⟨h1, h⟩ := ba h
      obtain ⟨h2, h⟩ := ba h
      obtain ⟨h3, h⟩ := ba h
      obtain ⟨h4, h5⟩ := ba h
      obtain ⟨cnm, cbs, cmro, cns, cqn, chd, csn, csub, cab, ccol, cdel⟩ := cd
      simp only at hm h3 h4
      have e1 := of_decide_eq_true h1
      have e2 := of_decide_eq_true h2
      have e3 : cdel = false := by cases cdel <;> first | rfl | cases h3
      have e4 : chd = true := h4
      have e5 : sl = #[k0, k1, k2, k3, some (.builtin n), k5] := by
        obtain ⟨l⟩ := sl
        exact congrArg Array.mk hs
      subst hm e1 e2 e3 e4 e5
      exact ⟨cnm, cqn, cns, cbs, bm, csn, csub, cab, ccol, od, k0, k1, k2, k3, k5, lk, h5⟩
    · cases h
  · cases h
end
end Kw

set_option maxHeartbeats 4000000
/-! G2: all the facts of the top, and every promise. Printed by gen_g2.py. -/
namespace Kw
open PySem PySem.Spec PyProof.Rows L2 L2H
open He (ga ma)
open C8 (Cal Mak)
theorem pw_names : ((List.range 16).map fun k => Str.ofString (toString k)) = pwords := by decide +kernel
theorem pw_vals (K : PySem.W.Frag) : (((List.range 16).map fun k => He.Dv.str (Str.ofString (toString k))).map (He.Dv.v K)) = pwords.map V.str := by
  rw [← pw_names, List.map_map, List.map_map]; rfl
section
variable {P : Program} {w : World} {K : PySem.W.Frag} {mg : Str → Option Value} {h : Heap} {base : Heap}
theorem g_bl (X : K.In h) (G : h.Ns mainGlobals mg) (c : SaysF K) : Bl mg := ⟨PySem.W.mg_none_of X G (eqv_ok (c.fact 49)), PySem.W.mg_none_of X G (eqv_ok (c.fact 50)), PySem.W.mg_none_of X G (eqv_ok (c.fact 51)), PySem.W.mg_none_of X G (eqv_ok (c.fact 52)), PySem.W.mg_none_of X G (eqv_ok (c.fact 53)), PySem.W.mg_none_of X G (eqv_ok (c.fact 54)), PySem.W.mg_none_of X G (eqv_ok (c.fact 55)), PySem.W.mg_none_of X G (eqv_ok (c.fact 56)), PySem.W.mg_none_of X G (eqv_ok (c.fact 57)), PySem.W.mg_none_of X G (eqv_ok (c.fact 58)), PySem.W.mg_none_of X G (eqv_ok (c.fact 59)), PySem.W.mg_none_of X G (eqv_ok (c.fact 60)), PySem.W.mg_none_of X G (eqv_ok (c.fact 61)), PySem.W.mg_none_of X G (eqv_ok (c.fact 62)), PySem.W.mg_none_of X G (eqv_ok (c.fact 63))⟩
def adrs (K : Fr1) : Adr := ⟨ga K "CrossError", ga K "InputError", ga K "LimitError", ga K "AnswerError", ga K "NoPlots", ga K "BadLabel", ga K "BadPlot", ga K "BadLots", ga K "BadText", ga K "TooMany"⟩
theorem g_adr (X : K.In h) (G : h.Ns mainGlobals mg) (c : SaysF K) : AdrG mg (adrs K) := ⟨PySem.W.mg_of X G (eqv_ok (c.fact 37)), PySem.W.mg_of X G (eqv_ok (c.fact 38)), PySem.W.mg_of X G (eqv_ok (c.fact 39)), PySem.W.mg_of X G (eqv_ok (c.fact 40)), PySem.W.mg_of X G (eqv_ok (c.fact 41)), PySem.W.mg_of X G (eqv_ok (c.fact 42)), PySem.W.mg_of X G (eqv_ok (c.fact 43)), PySem.W.mg_of X G (eqv_ok (c.fact 44)), PySem.W.mg_of X G (eqv_ok (c.fact 45)), PySem.W.mg_of X G (eqv_ok (c.fact 46))⟩
theorem g_parting (X : K.In h) (G : h.Ns mainGlobals mg) (c : SaysF K) : mg "Parting" = some (.ref (ga K "Parting")) := PySem.W.mg_of X G (eqv_ok (c.fact 47))
theorem g_isWhole (X : K.In h) (G : h.Ns mainGlobals mg) (c : SaysF K) : mg "is_whole" = some (.ref (ga K "is_whole")) := PySem.W.mg_of X G (eqv_ok (c.fact 0))
theorem g_isLabel (X : K.In h) (G : h.Ns mainGlobals mg) (c : SaysF K) : mg "is_label" = some (.ref (ga K "is_label")) := PySem.W.mg_of X G (eqv_ok (c.fact 1))
theorem g_isPlot (X : K.In h) (G : h.Ns mainGlobals mg) (c : SaysF K) : mg "is_plot" = some (.ref (ga K "is_plot")) := PySem.W.mg_of X G (eqv_ok (c.fact 2))
theorem g_needPlots (X : K.In h) (G : h.Ns mainGlobals mg) (c : SaysF K) : mg "need_plots" = some (.ref (ga K "need_plots")) := PySem.W.mg_of X G (eqv_ok (c.fact 3))
theorem g_needLabels (X : K.In h) (G : h.Ns mainGlobals mg) (c : SaysF K) : mg "need_labels" = some (.ref (ga K "need_labels")) := PySem.W.mg_of X G (eqv_ok (c.fact 4))
theorem g_leastPlots (X : K.In h) (G : h.Ns mainGlobals mg) (c : SaysF K) : mg "least_plots" = some (.ref (ga K "least_plots")) := PySem.W.mg_of X G (eqv_ok (c.fact 5))
theorem g_namedLots (X : K.In h) (G : h.Ns mainGlobals mg) (c : SaysF K) : mg "named_lots" = some (.ref (ga K "named_lots")) := PySem.W.mg_of X G (eqv_ok (c.fact 6))
theorem g_partingText (X : K.In h) (G : h.Ns mainGlobals mg) (c : SaysF K) : mg "parting_text" = some (.ref (ga K "parting_text")) := PySem.W.mg_of X G (eqv_ok (c.fact 7))
theorem g_wordPlot (X : K.In h) (G : h.Ns mainGlobals mg) (c : SaysF K) : mg "word_plot" = some (.ref (ga K "word_plot")) := PySem.W.mg_of X G (eqv_ok (c.fact 8))
theorem g_readParting (X : K.In h) (G : h.Ns mainGlobals mg) (c : SaysF K) : mg "read_parting" = some (.ref (ga K "read_parting")) := PySem.W.mg_of X G (eqv_ok (c.fact 9))
theorem g_allPartings (X : K.In h) (G : h.Ns mainGlobals mg) (c : SaysF K) : mg "all_partings" = some (.ref (ga K "all_partings")) := PySem.W.mg_of X G (eqv_ok (c.fact 10))
theorem g_store (X : K.In h) (G : h.Ns mainGlobals mg) (c : SaysF K) : mg "_law_store" = some (.ref (ga K "_law_store")) := PySem.W.mg_of X G (eqv_ok (c.fact 11))
theorem g_mixed (X : K.In h) (G : h.Ns mainGlobals mg) (c : SaysF K) : mg "_law_mixed" = some (.ref (ga K "_law_mixed")) := PySem.W.mg_of X G (eqv_ok (c.fact 12))
theorem g_take (X : K.In h) (G : h.Ns mainGlobals mg) (c : SaysF K) : mg "_law_take" = some (.ref (ga K "_law_take")) := PySem.W.mg_of X G (eqv_ok (c.fact 13))
theorem g_once (X : K.In h) (G : h.Ns mainGlobals mg) (c : SaysF K) : mg "_law_once" = some (.ref (ga K "_law_once")) := PySem.W.mg_of X G (eqv_ok (c.fact 14))
theorem g_pick (X : K.In h) (G : h.Ns mainGlobals mg) (c : SaysF K) : mg "_law_pick" = some (.ref (ga K "_law_pick")) := PySem.W.mg_of X G (eqv_ok (c.fact 15))
theorem g_between (X : K.In h) (G : h.Ns mainGlobals mg) (c : SaysF K) : mg "_law_between" = some (.ref (ga K "_law_between")) := PySem.W.mg_of X G (eqv_ok (c.fact 16))
theorem g_sign (X : K.In h) (G : h.Ns mainGlobals mg) (c : SaysF K) : mg "_law_sign" = some (.ref (ga K "_law_sign")) := PySem.W.mg_of X G (eqv_ok (c.fact 17))
theorem g_ltext (X : K.In h) (G : h.Ns mainGlobals mg) (c : SaysF K) : mg "_law_text" = some (.ref (ga K "_law_text")) := PySem.W.mg_of X G (eqv_ok (c.fact 18))
theorem g_bent (X : K.In h) (G : h.Ns mainGlobals mg) (c : SaysF K) : mg "_law_benttext" = some (.ref (ga K "_law_benttext")) := PySem.W.mg_of X G (eqv_ok (c.fact 19))
theorem g_same (X : K.In h) (G : h.Ns mainGlobals mg) (c : SaysF K) : mg "_law_same" = some (.ref (ga K "_law_same")) := PySem.W.mg_of X G (eqv_ok (c.fact 20))
theorem g_iswhole (X : K.In h) (G : h.Ns mainGlobals mg) (c : SaysF K) : mg "_law_iswhole" = some (.ref (ga K "_law_iswhole")) := PySem.W.mg_of X G (eqv_ok (c.fact 21))
theorem g_canon (X : K.In h) (G : h.Ns mainGlobals mg) (c : SaysF K) : mg "_law_canon" = some (.ref (ga K "_law_canon")) := PySem.W.mg_of X G (eqv_ok (c.fact 22))
theorem g_lparting (X : K.In h) (G : h.Ns mainGlobals mg) (c : SaysF K) : mg "_law_parting" = some (.ref (ga K "_law_parting")) := PySem.W.mg_of X G (eqv_ok (c.fact 23))
theorem g_llots (X : K.In h) (G : h.Ns mainGlobals mg) (c : SaysF K) : mg "_law_lots" = some (.ref (ga K "_law_lots")) := PySem.W.mg_of X G (eqv_ok (c.fact 24))
theorem g_ptext (X : K.In h) (G : h.Ns mainGlobals mg) (c : SaysF K) : mg "_law_partingtext" = some (.ref (ga K "_law_partingtext")) := PySem.W.mg_of X G (eqv_ok (c.fact 25))
theorem g_badtext (X : K.In h) (G : h.Ns mainGlobals mg) (c : SaysF K) : mg "_law_badpartingtext" = some (.ref (ga K "_law_badpartingtext")) := PySem.W.mg_of X G (eqv_ok (c.fact 26))
theorem g_reads (X : K.In h) (G : h.Ns mainGlobals mg) (c : SaysF K) : mg "_law_reads" = some (.ref (ga K "_law_reads")) := PySem.W.mg_of X G (eqv_ok (c.fact 27))
theorem g_texts (X : K.In h) (G : h.Ns mainGlobals mg) (c : SaysF K) : mg "_law_texts" = some (.ref (ga K "_law_texts")) := PySem.W.mg_of X G (eqv_ok (c.fact 28))
theorem g_refusal (X : K.In h) (G : h.Ns mainGlobals mg) (c : SaysF K) : mg "_law_refusal" = some (.ref (ga K "_law_refusal")) := PySem.W.mg_of X G (eqv_ok (c.fact 29))
theorem g_read (X : K.In h) (G : h.Ns mainGlobals mg) (c : SaysF K) : mg "_law_read" = some (.ref (ga K "_law_read")) := PySem.W.mg_of X G (eqv_ok (c.fact 30))
theorem g_listed (X : K.In h) (G : h.Ns mainGlobals mg) (c : SaysF K) : mg "_law_listed" = some (.ref (ga K "_law_listed")) := PySem.W.mg_of X G (eqv_ok (c.fact 31))
theorem g_isparting (X : K.In h) (G : h.Ns mainGlobals mg) (c : SaysF K) : mg "_law_isparting" = some (.ref (ga K "_law_isparting")) := PySem.W.mg_of X G (eqv_ok (c.fact 32))
theorem g_readsright (X : K.In h) (G : h.Ns mainGlobals mg) (c : SaysF K) : mg "_law_readsright" = some (.ref (ga K "_law_readsright")) := PySem.W.mg_of X G (eqv_ok (c.fact 33))
theorem g_isrow (X : K.In h) (G : h.Ns mainGlobals mg) (c : SaysF K) : mg "_law_isname_row" = some (.ref (ga K "_law_isname_row")) := PySem.W.mg_of X G (eqv_ok (c.fact 34))
theorem g_isall (X : K.In h) (G : h.Ns mainGlobals mg) (c : SaysF K) : mg "_law_isall" = some (.ref (ga K "_law_isall")) := PySem.W.mg_of X G (eqv_ok (c.fact 35))
theorem g_law (X : K.In h) (G : h.Ns mainGlobals mg) (c : SaysF K) : mg "law" = some (.ref (ga K "law")) := PySem.W.mg_of X G (eqv_ok (c.fact 36))
theorem f_ptc (c : SaysF K) : PtC K (ga K "Parting") := ⟨He.cls_ok (c.fact 68), He.noat_ok (c.fact 69), He.noat_ok (c.fact 70)⟩
theorem f_insc (c : SaysF K) : C8.InsC K (ga K "Parting") := ⟨He.cls_ok (c.fact 68), (eqv_ok (c.fact 89)), (eqv_ok (c.fact 90)), (oB_ok (c.fact 91)), (oB_ok (c.fact 92)), (oB_ok (c.fact 93))⟩
theorem rec_head {p : Addr} {s : String} (h : (match PySem.W.recIn K p s with
  | some (.ref _ :: _) => true
  | _ => false) = true) : ∃ g rest, PySem.W.recIn K p s = some (.ref g :: rest) := by
  split at h
  · rename_i g rest e
    exact ⟨g, rest, e⟩
  · cases h
theorem f_prop_plots (c : SaysF K) : PropOf K (ga K "Parting") "plots" (pp K "plots") (gp K "plots") := by
  obtain ⟨g, rest, e⟩ := rec_head (c.fact 75)
  refine ⟨(eqv_ok (c.fact 72)), (eqv_ok (c.fact 73)), (oB_ok (c.fact 74)), rest, ?_⟩
  rw [e]
  unfold gp
  rw [e]
theorem f_prop_names (c : SaysF K) : PropOf K (ga K "Parting") "names" (pp K "names") (gp K "names") := by
  obtain ⟨g, rest, e⟩ := rec_head (c.fact 79)
  refine ⟨(eqv_ok (c.fact 76)), (eqv_ok (c.fact 77)), (oB_ok (c.fact 78)), rest, ?_⟩
  rw [e]
  unfold gp
  rw [e]
theorem f_prop_lots (c : SaysF K) : PropOf K (ga K "Parting") "lots" (pp K "lots") (gp K "lots") := by
  obtain ⟨g, rest, e⟩ := rec_head (c.fact 83)
  refine ⟨(eqv_ok (c.fact 80)), (eqv_ok (c.fact 81)), (oB_ok (c.fact 82)), rest, ?_⟩
  rw [e]
  unfold gp
  rw [e]
theorem f_read (c : SaysF K) : ClX.CRead K (ga K "Parting") (.type "type") := ⟨(c.fact 84), (eqv_ok (c.fact 85))⟩
theorem f_cmet (c : SaysF K) : ClX.CMet K (ga K "Parting") (.type "type") "from_lots" (cp K "from_lots") (gc K "from_lots") := by
  obtain ⟨g, rest, e⟩ := rec_head (c.fact 87)
  refine ⟨?_, ⟨rest, ?_⟩, (c.fact 88)⟩
  · have h := (c.fact 86)
    have hc : ∀ p, PySem.W.findCls K (.ref (ga K "Parting")) (.type "type") "from_lots" = some (.get (.builtin "classmethod.__get__") (.ref p) .none (.ref (ga K "Parting"))) → cp K "from_lots" = p := fun p e => by
      unfold cp
      rw [e]
    split at h
    · rename_i g' p C e2
      obtain ⟨h1, h2⟩ := ba h
      have e1 := of_decide_eq_true h1
      have e3 := of_decide_eq_true h2
      rw [e1, e3] at e2
      rw [hc p e2]
      exact e2
    · cases h
  · rw [e]
    unfold gc
    rw [e]
theorem f_pw (X : K.In h) (G : h.Ns mainGlobals mg) (c : SaysF K) : PwF K mg (ga K "PLOT_WORDS") := by
  refine ⟨PySem.W.mg_of X G (eqv_ok (c.fact 48)), fun H => ?_, ?_⟩
  · have := He.tupB_ok (c.fact 66) H
    rw [pw_vals] at this
    exact this
  · have h := (c.fact 67)
    split at h
    · rename_i cn d sl e
      have e1 := of_decide_eq_true h
      exact ⟨_, e, congrArg Value.type e1, rfl⟩
    · cases h
theorem f_oex_BadLots (c : SaysF K) : OexC K (ga K "BadLots") := oex_of (c.fact 108) (eqv_ok (c.fact 109)) (oB_ok (c.fact 100)) (tB_ok (c.fact 101)) (c.fact 99)
theorem f_sup_BadLots (c : SaysF K) : SupC K (ga K "BadLots") := ⟨f_oex_BadLots c, (eqv_ok (c.fact 110)), (oB_ok (c.fact 111)), (oB_ok (c.fact 112)), (eqv_ok (c.fact 94))⟩
theorem f_oex_BadText (c : SaysF K) : OexC K (ga K "BadText") := oex_of (c.fact 116) (eqv_ok (c.fact 117)) (oB_ok (c.fact 103)) (tB_ok (c.fact 104)) (c.fact 102)
theorem f_sup_BadText (c : SaysF K) : SupC K (ga K "BadText") := ⟨f_oex_BadText c, (eqv_ok (c.fact 118)), (oB_ok (c.fact 119)), (oB_ok (c.fact 120)), (eqv_ok (c.fact 94))⟩
theorem f_oex_TooMany (c : SaysF K) : OexC K (ga K "TooMany") := oex_of (c.fact 124) (eqv_ok (c.fact 125)) (oB_ok (c.fact 106)) (tB_ok (c.fact 107)) (c.fact 105)
theorem f_sup_TooMany (c : SaysF K) : SupC K (ga K "TooMany") := ⟨f_oex_TooMany c, (eqv_ok (c.fact 126)), (oB_ok (c.fact 127)), (oB_ok (c.fact 128)), (eqv_ok (c.fact 94))⟩
theorem f_np (c : SaysF K) : Ex0 K (ga K "NoPlots") := ⟨⟨_, _, _, _, PySem.F.excBase_ValueError, (c.fact 95)⟩, (c.fact 96), (oB_ok (c.fact 97)), (tB_ok (c.fact 98))⟩
theorem f_exc_NoPlots (c : SaysF K) : ExcC K (ga K "NoPlots") := ⟨(eqv_ok (c.fact 134)), (eqv_ok (c.fact 135)), (oB_ok (c.fact 97)), (c.fact 136), (eqv_ok (c.fact 137)), (eqv_ok (c.fact 90)), (oB_ok (c.fact 91)), (oB_ok (c.fact 138))⟩
theorem f_kit_NoPlots (c : SaysF K) : Kit K (adrs K) (ga K "NoPlots") true false false false true := ⟨f_exc_NoPlots c, ⟨(eqv_ok (c.fact 134)), (eqv_ok (c.fact 135)), (oB_ok (c.fact 97)), (c.fact 136)⟩, (eqv_ok (c.fact 139)), (eqv_ok (c.fact 140)), (eqv_ok (c.fact 141)), (oB_ok (c.fact 146)), (oB_ok (c.fact 147)), (oB_ok (c.fact 148)), (oB_ok (c.fact 149)), (oB_ok (c.fact 150)), (oB_ok (c.fact 142)), (oB_ok (c.fact 143)), (oB_ok (c.fact 144)), (oB_ok (c.fact 145)), (oB_ok (c.fact 151))⟩
theorem f_exc_TooMany (c : SaysF K) : ExcC K (ga K "TooMany") := ⟨(eqv_ok (c.fact 153)), (eqv_ok (c.fact 154)), (oB_ok (c.fact 106)), (c.fact 155), (eqv_ok (c.fact 156)), (eqv_ok (c.fact 90)), (oB_ok (c.fact 91)), (oB_ok (c.fact 157))⟩
theorem f_kit_TooMany (c : SaysF K) : Kit K (adrs K) (ga K "TooMany") false true false true false := ⟨f_exc_TooMany c, ⟨(eqv_ok (c.fact 153)), (eqv_ok (c.fact 154)), (oB_ok (c.fact 106)), (c.fact 155)⟩, (eqv_ok (c.fact 158)), (eqv_ok (c.fact 159)), (eqv_ok (c.fact 160)), (oB_ok (c.fact 165)), (oB_ok (c.fact 166)), (oB_ok (c.fact 167)), (oB_ok (c.fact 168)), (oB_ok (c.fact 169)), (oB_ok (c.fact 161)), (oB_ok (c.fact 162)), (oB_ok (c.fact 163)), (oB_ok (c.fact 164)), (oB_ok (c.fact 170))⟩
theorem f_exc_BadText (c : SaysF K) : ExcC K (ga K "BadText") := ⟨(eqv_ok (c.fact 172)), (eqv_ok (c.fact 173)), (oB_ok (c.fact 103)), (c.fact 174), (eqv_ok (c.fact 175)), (eqv_ok (c.fact 90)), (oB_ok (c.fact 91)), (oB_ok (c.fact 176))⟩
theorem f_kit_BadText (c : SaysF K) : Kit K (adrs K) (ga K "BadText") false false true false true := ⟨f_exc_BadText c, ⟨(eqv_ok (c.fact 172)), (eqv_ok (c.fact 173)), (oB_ok (c.fact 103)), (c.fact 174)⟩, (eqv_ok (c.fact 177)), (eqv_ok (c.fact 178)), (eqv_ok (c.fact 179)), (oB_ok (c.fact 184)), (oB_ok (c.fact 185)), (oB_ok (c.fact 186)), (oB_ok (c.fact 187)), (oB_ok (c.fact 188)), (oB_ok (c.fact 180)), (oB_ok (c.fact 181)), (oB_ok (c.fact 182)), (oB_ok (c.fact 183)), (oB_ok (c.fact 189))⟩
/-- all that the chain asks of the defs -/
theorem law_ok (hP : P.main.file = mainFile) (htop : (P.main.scope.names.lookup ("super" : Str)).isSome = false) (X : K.In h) (G : h.Ns mainGlobals mg) (c : SaysF K) :
    ∃ fd, L2.Fun K "law" "law" s_law (ga K "law") fd ∧ ∀ base : Heap, FnOk P w K mg base L2.CX0 10 (ga K "law") fd ["_law_script"] (spLaw K) := by
  have B : Bl mg := g_bl X G c
  have AG := g_adr X G c
  have PC : PtC K (ga K "Parting") := f_ptc c
  have iC := f_insc c
  have gP := g_parting X G c
  obtain ⟨t16, mp⟩ := He.int_ok X G (c.fact 64)
  obtain ⟨t5, ml⟩ := He.int_ok X G (c.fact 65)
  have W := f_pw X G c
  obtain ⟨fd_isWhole, F_isWhole⟩ := c.fun_ 0 (at_ := _) (st := s_isWhole)
  obtain ⟨fd_isLabel, F_isLabel⟩ := c.fun_ 1 (at_ := _) (st := s_isLabel)
  obtain ⟨fd_isPlot, F_isPlot⟩ := c.fun_ 2 (at_ := _) (st := s_isPlot)
  obtain ⟨fd_needPlots, F_needPlots⟩ := c.fun_ 3 (at_ := _) (st := s_needPlots)
  obtain ⟨fd_needLabels, F_needLabels⟩ := c.fun_ 4 (at_ := _) (st := s_needLabels)
  obtain ⟨fd_leastPlots, F_leastPlots⟩ := c.fun_ 5 (at_ := _) (st := s_leastPlots)
  obtain ⟨fd_namedLots, F_namedLots⟩ := c.fun_ 6 (at_ := _) (st := s_namedLots)
  obtain ⟨fd_partingText, F_partingText⟩ := c.fun_ 7 (at_ := _) (st := s_partingText)
  obtain ⟨fd_wordPlot, F_wordPlot⟩ := c.fun_ 8 (at_ := _) (st := s_wordPlot)
  obtain ⟨fd_readParting, F_readParting⟩ := c.fun_ 9 (at_ := _) (st := s_readParting)
  obtain ⟨fd_allPartings, F_allPartings⟩ := c.fun_ 10 (at_ := _) (st := s_allPartings)
  obtain ⟨fd_store, F_store⟩ := c.fun_ 11 (at_ := _) (st := s_store)
  obtain ⟨fd_mixed, F_mixed⟩ := c.fun_ 12 (at_ := _) (st := s_mixed)
  obtain ⟨fd_take, F_take⟩ := c.fun_ 13 (at_ := _) (st := s_take)
  obtain ⟨fd_once, F_once⟩ := c.fun_ 14 (at_ := _) (st := s_once)
  obtain ⟨fd_pick, F_pick⟩ := c.fun_ 15 (at_ := _) (st := s_pick)
  obtain ⟨fd_between, F_between⟩ := c.fun_ 16 (at_ := _) (st := s_between)
  obtain ⟨fd_sign, F_sign⟩ := c.fun_ 17 (at_ := _) (st := s_sign)
  obtain ⟨fd_ltext, F_ltext⟩ := c.fun_ 18 (at_ := _) (st := s_ltext)
  obtain ⟨fd_bent, F_bent⟩ := c.fun_ 19 (at_ := _) (st := s_bent)
  obtain ⟨fd_same, F_same⟩ := c.fun_ 20 (at_ := _) (st := s_same)
  obtain ⟨fd_iswhole, F_iswhole⟩ := c.fun_ 21 (at_ := _) (st := s_iswhole)
  obtain ⟨fd_canon, F_canon⟩ := c.fun_ 22 (at_ := _) (st := s_canon)
  obtain ⟨fd_lparting, F_lparting⟩ := c.fun_ 23 (at_ := _) (st := s_lparting)
  obtain ⟨fd_llots, F_llots⟩ := c.fun_ 24 (at_ := _) (st := s_llots)
  obtain ⟨fd_ptext, F_ptext⟩ := c.fun_ 25 (at_ := _) (st := s_ptext)
  obtain ⟨fd_badtext, F_badtext⟩ := c.fun_ 26 (at_ := _) (st := s_badtext)
  obtain ⟨fd_reads, F_reads⟩ := c.fun_ 27 (at_ := _) (st := s_reads)
  obtain ⟨fd_texts, F_texts⟩ := c.fun_ 28 (at_ := _) (st := s_texts)
  obtain ⟨fd_refusal, F_refusal⟩ := c.fun_ 29 (at_ := _) (st := s_refusal)
  obtain ⟨fd_read, F_read⟩ := c.fun_ 30 (at_ := _) (st := s_read)
  obtain ⟨fd_listed, F_listed⟩ := c.fun_ 31 (at_ := _) (st := s_listed)
  obtain ⟨fd_isparting, F_isparting⟩ := c.fun_ 32 (at_ := _) (st := s_isparting)
  obtain ⟨fd_readsright, F_readsright⟩ := c.fun_ 33 (at_ := _) (st := s_readsright)
  obtain ⟨fd_isrow, F_isrow⟩ := c.fun_ 34 (at_ := _) (st := s_isrow)
  obtain ⟨fd_isall, F_isall⟩ := c.fun_ 35 (at_ := _) (st := s_isall)
  obtain ⟨fd_law, F_law⟩ := c.fun_ 36 (at_ := _) (st := s_law)
  obtain ⟨fd_pInit, F_pInit⟩ := c.fun_ 37 (at_ := _) (st := s_pInit)
  obtain ⟨fd_pPlots, F_pPlots⟩ := c.fun_ 38 (at_ := _) (st := s_pPlots)
  obtain ⟨fd_pNames, F_pNames⟩ := c.fun_ 39 (at_ := _) (st := s_pNames)
  obtain ⟨fd_pLots, F_pLots⟩ := c.fun_ 40 (at_ := _) (st := s_pLots)
  obtain ⟨fd_fromLots, F_fromLots⟩ := c.fun_ 41 (at_ := _) (st := s_fromLots)
  obtain ⟨fd_badLots, F_badLots⟩ := c.sup_ 42 (st := s_badLots) hP
  obtain ⟨fd_badText, F_badText⟩ := c.sup_ 43 (st := s_badText) hP
  obtain ⟨fd_tooMany, F_tooMany⟩ := c.sup_ 44 (st := s_tooMany) hP
  have b_isWhole : Binds K fd_isWhole ["value"] [] := F_isWhole.binds fun _ _ _ _ _ _ us hl => match us, hl with | [_], _ => rfl
  have b_isLabel : Binds K fd_isLabel ["value"] [] := F_isLabel.binds fun _ _ _ _ _ _ us hl => match us, hl with | [_], _ => rfl
  have b_isPlot : Binds K fd_isPlot ["value", "plots"] [] := F_isPlot.binds fun _ _ _ _ _ _ us hl => match us, hl with | [_, _], _ => rfl
  have b_needPlots : Binds K fd_needPlots ["plots"] [] := F_needPlots.binds fun _ _ _ _ _ _ us hl => match us, hl with | [_], _ => rfl
  have b_needLabels : Binds K fd_needLabels ["labels"] [] := F_needLabels.binds fun _ _ _ _ _ _ us hl => match us, hl with | [_], _ => rfl
  have b_leastPlots : Binds K fd_leastPlots ["labels"] [] := F_leastPlots.binds fun _ _ _ _ _ _ us hl => match us, hl with | [_], _ => rfl
  have b_namedLots : Binds K fd_namedLots ["names"] [] := F_namedLots.binds fun _ _ _ _ _ _ us hl => match us, hl with | [_], _ => rfl
  have b_partingText : Binds K fd_partingText ["parting"] [] := F_partingText.binds fun _ _ _ _ _ _ us hl => match us, hl with | [_], _ => rfl
  have b_wordPlot : Binds K fd_wordPlot ["word"] [] := F_wordPlot.binds fun _ _ _ _ _ _ us hl => match us, hl with | [_], _ => rfl
  have b_readParting : Binds K fd_readParting ["text"] [] := F_readParting.binds fun _ _ _ _ _ _ us hl => match us, hl with | [_], _ => rfl
  have b_allPartings : Binds K fd_allPartings ["plots"] [] := F_allPartings.binds fun _ _ _ _ _ _ us hl => match us, hl with | [_], _ => rfl
  have b_store : Binds K fd_store ["_law_script"] [] := F_store.binds fun _ _ _ _ _ _ us hl => match us, hl with | [_], _ => rfl
  have b_mixed : Binds K fd_mixed ["_law_number", "_law_turn"] [] := F_mixed.binds fun _ _ _ _ _ _ us hl => match us, hl with | [_, _], _ => rfl
  have b_take : Binds K fd_take ["_law_store_here", "_law_many"] [] := F_take.binds fun _ _ _ _ _ _ us hl => match us, hl with | [_, _], _ => rfl
  have b_once : Binds K fd_once ["_law_store_here", "_law_many"] [] := F_once.binds fun _ _ _ _ _ _ us hl => match us, hl with | [_, _], _ => rfl
  have b_pick : Binds K fd_pick ["_law_store_here", "_law_row"] [] := F_pick.binds fun _ _ _ _ _ _ us hl => match us, hl with | [_, _], _ => rfl
  have b_between : Binds K fd_between ["_law_store_here", "_law_low", "_law_high"] [] := F_between.binds fun _ _ _ _ _ _ us hl => match us, hl with | [_, _, _], _ => rfl
  have b_sign : Binds K fd_sign ["_law_store_here"] [] := F_sign.binds fun _ _ _ _ _ _ us hl => match us, hl with | [_], _ => rfl
  have b_ltext : Binds K fd_ltext ["_law_store_here", "_law_most"] [] := F_ltext.binds fun _ _ _ _ _ _ us hl => match us, hl with | [_, _], _ => rfl
  have b_bent : Binds K fd_bent ["_law_store_here", "_law_text_here", "_law_menu"] [] := F_bent.binds fun _ _ _ _ _ _ us hl => match us, hl with | [_, _, _], _ => rfl
  have b_same : Binds K fd_same ["_law_left", "_law_right"] [] := F_same.binds fun _ _ _ _ _ _ us hl => match us, hl with | [_, _], _ => rfl
  have b_iswhole : Binds K fd_iswhole ["_law_value"] [] := F_iswhole.binds fun _ _ _ _ _ _ us hl => match us, hl with | [_], _ => rfl
  have b_canon : Binds K fd_canon ["_law_labels"] [] := F_canon.binds fun _ _ _ _ _ _ us hl => match us, hl with | [_], _ => rfl
  have b_lparting : Binds K fd_lparting ["_law_store_here", "_law_plots"] [] := F_lparting.binds fun _ _ _ _ _ _ us hl => match us, hl with | [_, _], _ => rfl
  have b_llots : Binds K fd_llots ["_law_names"] [] := F_llots.binds fun _ _ _ _ _ _ us hl => match us, hl with | [_], _ => rfl
  have b_ptext : Binds K fd_ptext ["_law_names"] [] := F_ptext.binds fun _ _ _ _ _ _ us hl => match us, hl with | [_], _ => rfl
  have b_badtext : Binds K fd_badtext ["_law_store_here", "_law_names"] [] := F_badtext.binds fun _ _ _ _ _ _ us hl => match us, hl with | [_, _], _ => rfl
  have b_reads : Binds K fd_reads ["_law_text_here"] [] := F_reads.binds fun _ _ _ _ _ _ us hl => match us, hl with | [_], _ => rfl
  have b_texts : Binds K fd_texts ["_law_store_here", "_law_one", "_law_two"] [] := F_texts.binds fun _ _ _ _ _ _ us hl => match us, hl with | [_, _, _], _ => rfl
  have b_refusal : Binds K fd_refusal ["_law_error"] [] := F_refusal.binds fun _ _ _ _ _ _ us hl => match us, hl with | [_], _ => rfl
  have b_read : Binds K fd_read ["_law_text_here"] [] := F_read.binds fun _ _ _ _ _ _ us hl => match us, hl with | [_], _ => rfl
  have b_listed : Binds K fd_listed ["_law_counted"] [] := F_listed.binds fun _ _ _ _ _ _ us hl => match us, hl with | [_], _ => rfl
  have b_isparting : Binds K fd_isparting ["_law_parting_here", "_law_names"] [] := F_isparting.binds fun _ _ _ _ _ _ us hl => match us, hl with | [_, _], _ => rfl
  have b_readsright : Binds K fd_readsright ["_law_texts_here"] [] := F_readsright.binds fun _ _ _ _ _ _ us hl => match us, hl with | [_], _ => rfl
  have b_isrow : Binds K fd_isrow ["_law_names", "_law_plots"] [] := F_isrow.binds fun _ _ _ _ _ _ us hl => match us, hl with | [_, _], _ => rfl
  have b_isall : Binds K fd_isall ["_law_told", "_law_plots"] [] := F_isall.binds fun _ _ _ _ _ _ us hl => match us, hl with | [_, _], _ => rfl
  have b_law : Binds K fd_law ["_law_script"] [] := F_law.binds fun _ _ _ _ _ _ us hl => match us, hl with | [_], _ => rfl
  have b_pInit : Binds K fd_pInit ["self", "labels"] [] := F_pInit.binds fun _ _ _ _ _ _ us hl => match us, hl with | [_, _], _ => rfl
  have b_pPlots : Binds K fd_pPlots ["self"] [] := F_pPlots.binds fun _ _ _ _ _ _ us hl => match us, hl with | [_], _ => rfl
  have b_pNames : Binds K fd_pNames ["self"] [] := F_pNames.binds fun _ _ _ _ _ _ us hl => match us, hl with | [_], _ => rfl
  have b_pLots : Binds K fd_pLots ["self"] [] := F_pLots.binds fun _ _ _ _ _ _ us hl => match us, hl with | [_], _ => rfl
  have b_fromLots : Binds K fd_fromLots ["cls", "plots", "lots"] [] := F_fromLots.binds fun _ _ _ _ _ _ us hl => match us, hl with | [_, _, _], _ => rfl
  have b_badLots : Binds K fd_badLots ["self", "at"] [] := F_badLots.binds fun _ _ _ _ _ _ _ us hl => match us, hl with | [_, _], _ => rfl
  have b_badText : Binds K fd_badText ["self", "text"] [] := F_badText.binds fun _ _ _ _ _ _ _ us hl => match us, hl with | [_, _], _ => rfl
  have b_tooMany : Binds K fd_tooMany ["self", "what", "limit"] [] := F_tooMany.binds fun _ _ _ _ _ _ _ us hl => match us, hl with | [_, _, _], _ => rfl
  refine ⟨fd_law, F_law, fun base => ?_⟩
  have c_isWhole := cal_mk F_isWhole (g_isWhole X G c) b_isWhole (ok_isWhole (P := P) (w := w) (mg := mg) (base := base) (k := 0) B F_isWhole)
  have c_isLabel := cal_mk F_isLabel (g_isLabel X G c) b_isLabel (ok_isLabel (P := P) (w := w) (mg := mg) (base := base) (k := 0) c_isWhole F_isLabel)
  have c_isPlot := cal_mk F_isPlot (g_isPlot X G c) b_isPlot (ok_isPlot (P := P) (w := w) (mg := mg) (base := base) (k := 0) c_isWhole F_isPlot)
  have c_need0 := cal_mk F_needPlots (g_needPlots X G c) b_needPlots (ok_need0 (P := P) (w := w) (mg := mg) (base := base) (k := 0) mp F_needPlots)
  have c_needL := cal_mk F_needLabels (g_needLabels X G c) b_needLabels (ok_needL (P := P) (w := w) (mg := mg) (base := base) (k := 0) B c_need0 c_isLabel F_needLabels)
  have c_least := cal_mk F_leastPlots (g_leastPlots X G c) b_leastPlots (ok_least (P := P) (w := w) (mg := mg) (base := base) (k := 0) B F_leastPlots)
  have c_named := cal_mk F_namedLots (g_namedLots X G c) b_namedLots (ok_named (P := P) (w := w) (mg := mg) (base := base) (k := 0) B F_namedLots)
  have I_init : FnOk P w K mg base L2.CX0 4 (ma K (ga K "Parting") "__init__") fd_pInit ["self", "labels"] (spInit K (ga K "Parting")) := ok_init (k := 0) PC c_needL c_least c_named F_pInit
  have mkr := He.mkr_ok (c.fact 71)
  have mk : Mak P w K mg base 4 "Parting" (ga K "Parting") (spInit K (ga K "Parting")) [] := ⟨_, _, _, [], mkr, I_init, gP, b_pInit, .nil⟩
  have pN : PrC P w K mg base (ga K "Parting") "names" (spGet (ga K "Parting") true) := ⟨_, _, _, f_prop_names c, ok_pNames (k := 0) PC F_pNames, b_pNames⟩
  have pL : PrC P w K mg base (ga K "Parting") "lots" (spGet (ga K "Parting") false) := ⟨_, _, _, f_prop_lots c, ok_pLots (k := 0) PC F_pLots, b_pLots⟩
  have pP : PrC P w K mg base (ga K "Parting") "plots" (spPlots (ga K "Parting")) := ⟨_, _, _, f_prop_plots c, ok_pPlots (k := 0) B PC F_pPlots, b_pPlots⟩
  have c_ptext0 := cal_mk F_partingText (g_partingText X G c) b_partingText (ok_partingText (P := P) (w := w) (mg := mg) (base := base) (k := 0) B PC pL F_partingText)
  have c_word := cal_mk F_wordPlot (g_wordPlot X G c) b_wordPlot (ok_wordPlot (P := P) (w := w) (mg := mg) (base := base) (k := 0) W F_wordPlot)
  have mBL : ExM P w K mg base (ga K "BadLots") (spX1 (ga K "BadLots") "at") := ⟨_, _, _, f_oex_BadLots c, (eqv_ok (c.fact 113)), (tB_ok (c.fact 114)), ok_badLots (k := 0) F_badLots (f_sup_BadLots c) (eqv_ok (c.fact 115)) B.super htop, b_badLots⟩
  have mBT : ExM P w K mg base (ga K "BadText") (spX1 (ga K "BadText") "text") := ⟨_, _, _, f_oex_BadText c, (eqv_ok (c.fact 121)), (tB_ok (c.fact 122)), ok_badText (k := 0) F_badText (f_sup_BadText c) (eqv_ok (c.fact 123)) B.super htop, b_badText⟩
  have hBT : ExH P w K mg base (ga K "BadText") (spX1 (ga K "BadText") "text") := ⟨_, _, _, f_oex_BadText c, (eqv_ok (c.fact 121)), (tB_ok (c.fact 122)), hot_badText (k := 0) F_badText (f_sup_BadText c) (eqv_ok (c.fact 123)) B.super htop, b_badText⟩
  have mTM : ExM P w K mg base (ga K "TooMany") (spX2 (ga K "TooMany") "what" "limit") := ⟨_, _, _, f_oex_TooMany c, (eqv_ok (c.fact 129)), (tB_ok (c.fact 130)), ok_tooMany (k := 0) F_tooMany (f_sup_TooMany c) (eqv_ok (c.fact 131)) (eqv_ok (c.fact 132)) B.super htop, b_tooMany⟩
  have fl : FlC P w K mg base (ga K "Parting") (ga K "BadLots") := ⟨_, _, _, _, 0, f_read c, f_cmet c, ok_fromLots (k := 0) B c_need0 c_isPlot AG.BL mBL mkr I_init b_pInit F_fromLots, b_fromLots⟩
  have x_read : CalX P w K mg base 7 "read_parting" (spRead (ga K "Parting") (ga K "BadText")) := ⟨_, _, _, ok_readParting (k := 0) B mp c_word c_ptext0 gP AG.BL AG.BT mBT hBT (oB_ok (c.fact 133)) fl F_readParting, g_readParting X G c, F_readParting.kp, b_readParting⟩
  have x_need : CalX P w K mg base 3 "need_plots" (spNeedX (ga K "NoPlots") (ga K "TooMany")) := ⟨_, _, _, ok_needX (k := 0) mp AG.NP AG.TM (f_np c) mTM F_needPlots, g_needPlots X G c, F_needPlots.kp, b_needPlots⟩
  have x_all : CalX P w K mg base 6 "all_partings" (spAll (ga K "Parting") (ga K "NoPlots") (ga K "TooMany")) := ⟨_, _, _, ok_allPartings (k := 0) B ml AG.TM mTM x_need mk F_allPartings, g_allPartings X G c, F_allPartings.kp, b_allPartings⟩
  have c_store := cal_mk F_store (g_store X G c) b_store (ok_store (P := P) (w := w) (mg := mg) (base := base) (k := 0) B F_store)
  have c_mixed := cal_mk F_mixed (g_mixed X G c) b_mixed (ok_mixed (P := P) (w := w) (mg := mg) (base := base) (k := 0) B F_mixed)
  have c_take := cal_mk F_take (g_take X G c) b_take (ok_take (P := P) (w := w) (mg := mg) (base := base) (k := 0) B c_mixed F_take)
  have c_once := cal_mk F_once (g_once X G c) b_once (ok_once (P := P) (w := w) (mg := mg) (base := base) (k := 0) c_take F_once)
  have c_pick := cal_mk F_pick (g_pick X G c) b_pick (ok_pick (P := P) (w := w) (mg := mg) (base := base) (k := 0) B c_take F_pick)
  have c_btw := cal_mk F_between (g_between X G c) b_between (ok_between (P := P) (w := w) (mg := mg) (base := base) (k := 0) c_take c_once c_pick F_between)
  have c_sign := cal_mk F_sign (g_sign X G c) b_sign (ok_sign (P := P) (w := w) (mg := mg) (base := base) (k := 0) c_pick F_sign)
  have c_ltext := cal_mk F_ltext (g_ltext X G c) b_ltext (ok_ltext (P := P) (w := w) (mg := mg) (base := base) (k := 0) B c_take c_once c_sign F_ltext)
  have c_bent := cal_mk F_bent (g_bent X G c) b_bent (ok_bent (P := P) (w := w) (mg := mg) (base := base) (k := 0) B c_take c_pick c_btw F_bent)
  have c_same0 := cal_mk F_same (g_same X G c) b_same (ok_same0 (P := P) (w := w) (mg := mg) (base := base) (k := 0) B F_same)
  have c_same1 := cal_mk F_same (g_same X G c) b_same (ok_sameS (P := P) (w := w) (mg := mg) (base := base) (k := 0) (n:=0) B c_same0 F_same)
  have c_same2 := cal_mk F_same (g_same X G c) b_same (ok_sameS (P := P) (w := w) (mg := mg) (base := base) (k := 0) (n:=1) B c_same1 F_same)
  have c_same3 := cal_mk F_same (g_same X G c) b_same (ok_sameS (P := P) (w := w) (mg := mg) (base := base) (k := 0) (n:=2) B c_same2 F_same)
  have c_iswhole := cal_mk F_iswhole (g_iswhole X G c) b_iswhole (ok_iswhole (P := P) (w := w) (mg := mg) (base := base) (k := 0) B F_iswhole)
  have c_canon := cal_mk F_canon (g_canon X G c) b_canon (ok_canon (P := P) (w := w) (mg := mg) (base := base) (k := 0) B F_canon)
  have c_lpart := cal_mk F_lparting (g_lparting X G c) b_lparting (ok_lparting (P := P) (w := w) (mg := mg) (base := base) (k := 0) B c_take c_canon F_lparting)
  have c_llots := cal_mk F_llots (g_llots X G c) b_llots (ok_llots (P := P) (w := w) (mg := mg) (base := base) (k := 0) B F_llots)
  have c_ptext := cal_mk F_ptext (g_ptext X G c) b_ptext (ok_ptext (P := P) (w := w) (mg := mg) (base := base) (k := 0) B c_llots F_ptext)
  have c_bad := cal_mk F_badtext (g_badtext X G c) b_badtext (ok_badtext (P := P) (w := w) (mg := mg) (base := base) (k := 0) B c_pick c_ptext F_badtext)
  have c_reads := cal_mk F_reads (g_reads X G c) b_reads (ok_reads (P := P) (w := w) (mg := mg) (base := base) (k := 0) B c_ptext F_reads)
  have c_texts := cal_mk F_texts (g_texts X G c) b_texts (ok_texts (P := P) (w := w) (mg := mg) (base := base) (k := 0) B c_take c_pick c_btw c_ptext c_bad c_bent c_ltext c_lpart F_texts)
  have r_NP : RefC P w K mg base (ga K "NoPlots") true false false false true := ⟨_, _, fun d => ok_refusal (k := 0) (d := d) B AG (f_kit_NoPlots c) F_refusal, g_refusal X G c, F_refusal.kp, b_refusal⟩
  have r_TM : RefC P w K mg base (ga K "TooMany") false true false true false := ⟨_, _, fun d => ok_refusal (k := 0) (d := d) B AG (f_kit_TooMany c) F_refusal, g_refusal X G c, F_refusal.kp, b_refusal⟩
  have r_BT : RefC P w K mg base (ga K "BadText") false false true false true := ⟨_, _, fun d => ok_refusal (k := 0) (d := d) B AG (f_kit_BadText c) F_refusal, g_refusal X G c, F_refusal.kp, b_refusal⟩
  have c_read := cal_mk F_read (g_read X G c) b_read (ok_read (P := P) (w := w) (mg := mg) (base := base) (k := 0) AG.CE (oB_ok (c.fact 190)) r_BT x_read F_read)
  have c_listed := cal_mk F_listed (g_listed X G c) b_listed (ok_listed (P := P) (w := w) (mg := mg) (base := base) (k := 0) AG.CE (oB_ok (c.fact 152)) (oB_ok (c.fact 171)) r_NP r_TM x_all F_listed)
  have c_isp := cal_mk F_isparting (g_isparting X G c) b_isparting (ok_isparting (P := P) (w := w) (mg := mg) (base := base) (k := 0) B PC iC gP c_same2 c_llots c_ptext c_ptext0 pN pL pP F_isparting)
  have c_rr := cal_mk F_readsright (g_readsright X G c) b_readsright (ok_readsright (P := P) (w := w) (mg := mg) (base := base) (k := 0) B c_reads c_read c_same2 c_isp F_readsright)
  have c_row := cal_mk F_isrow (g_isrow X G c) b_isrow (ok_isrow (P := P) (w := w) (mg := mg) (base := base) (k := 0) B c_iswhole F_isrow)
  have c_isall := cal_mk F_isall (g_isall X G c) b_isall (ok_isall (P := P) (w := w) (mg := mg) (base := base) (k := 0) B PC iC gP c_row c_read c_isp c_ptext0 pN F_isall)
  exact ok_law (k := 0) B gP c_store c_take c_pick c_btw c_lpart c_texts mk c_isp c_rr c_listed c_isall c_same2 c_same3 F_law
end
end Kw

set_option maxHeartbeats 0
/-! Z: the law. -/
namespace Kw
open PySem PySem.Spec PyProof.Rows L2
open He (ga ma)
/-- the law's promise, from what the top leaves behind -/
theorem law_facts {P : Program} {w : World} {K : PySem.W.Frag} {h : Heap} {mg : Str → Option Value} {f : Addr} (hP : P.main.file = mainFile) (htop : (P.main.scope.names.lookup ("super" : Str)).isSome = false) (X : K.In h) (G : h.Ns mainGlobals mg) (hfa : mg ("law" : Str) = some (.ref f)) (c : SaysF K) :
    ∃ fd : FuncData, (∀ (s : Shared) (v : Value), BindsTo s fd ⟨[v], []⟩ [("_law_script", v)]) ∧ ∀ base : Heap, K.In base → base.Ns mainGlobals mg → FnOk P w K mg base L2.CX0 10 f fd ["_law_script"] (spLaw K) := by
  obtain ⟨fd, F, ok⟩ := law_ok (w := w) hP htop X G c
  have e := hfa.symm.trans (g_law X G c)
  cases e
  refine ⟨fd, fun s v => ?_, fun base _ _ => ok base⟩
  obtain ⟨oc, od, kV, doc, pm, an, cdv, ct, osl, rfl, _⟩ := F.ex
  exact .of_eq rfl
end Kw
open PySem PySem.W PySem.Calls PyProof.Rows
theorem PySem.Challenge.cw_crossmeans_k08_whole_written_partings_holds : PySem.Challenge.rw_crossmeans_k08_whole_written_partings.Holds := by
  w_on; o_law
  refine HandSHeadRun.head_any (r := OpenLaw.row PySem.Challenge.rw_crossmeans_k08_whole_written_partings) (q := view (OpenLaw.row PySem.Challenge.rw_crossmeans_k08_whole_written_partings).prog [57]) (H := Kw.hookF) (ob := Kw.obF) (M := 12000) (loose := Kw.loo) (d := HandSHeadRun.topDef (OpenLaw.row PySem.Challenge.rw_crossmeans_k08_whole_written_partings).prog 57) (kwd := []) Kw.obF_eq
    (by kernel_rfl) (fun s => by kernel_rfl) Kw.runF (by kernel_rfl) (by kernel_rfl) (by kernel_rfl) (by rfl) (by first | assumption | decide +kernel) (by decide +kernel) ⟨rfl, rfl, rfl, rfl, rfl, by decide +kernel⟩ ?hw ?hc
  case hw => w_witness2
  case hc =>
    refine L2.walk_ofE (l := PySem.Challenge.rw_crossmeans_k08_whole_written_partings) (n := 63) (k := 10) (x := "_law_script") (CX := L2.CX0) rfl (by decide) (by kernel_rfl) ⟨rfl, by decide, by decide⟩ ?F (fun _ _ _ _ z => z)
    intro w mg fa h Y G hmg0
    obtain ⟨K, KX, c⟩ := Y
    have hmg : mg ("law" : PySem.Str) = some (.ref fa) := by
      have e : (HandSHeadRun.topDef (OpenLaw.row PySem.Challenge.rw_crossmeans_k08_whole_written_partings).prog 57).name = ("law" : PySem.Str) := by kernel_rfl
      rw [← e]
      exact hmg0
    obtain ⟨fd, hb, hF⟩ := Kw.law_facts (P := (PySem.Challenge.rw_crossmeans_k08_whole_written_partings).prog) (w := w) rfl (by decide +kernel) KX G hmg c
    exact ⟨K, fd, Kw.spLaw K, KX, hb, fun H a ns hl _ hS => ⟨a, ns, rfl, hS, Nat.le_trans hl (by decide), fun _ => rfl⟩, hF⟩
