import PyProof.Rows.All
import Wide.All
import OpenK.AllK
import Wide.FinOn
import HandS.ForMost
import KE.KRevSl
import KE.KUnpack
import PyProof.InstNe
import HandS.Defaults
import HandS.MakeKwOnly
import HandS.Codes
import HandS.OwnEq
import HandS.IsInst
import HandS.Walk
import HandS.More
import HandS.Star
import HandS.WordsDict
import PyProof.StrLaws
import HandS.FStr
import HandS.Text
import HandS.NoneIn
import HandS.Conv
import HandS.DictComp
import KE.KStateDown
import HandS.Head0
import HandS.Head1
import HandS.Head2
import HandS.HeadEnd
import HandS.HeadHook1
import HandS.HeadHook2
import HandS.HeadHook3
import HandS.HeadHook4
import PySem.Challenge.RW_editionrows_k73_whole_texts_there_and_ba
set_option Elab.async false
set_option linter.all false
set_option maxRecDepth 100000
set_option maxHeartbeats 4000000
/-! Editionrows: the plain law: columns, changes, texts as plain data. -/
namespace Ed
open PySem L2

/-! ### columns and changes -/
structure Col where
  name : Str
  most : Int
  dflt : Option Int
inductive Chg where
  | add (n : Str) (g : Int) (d : Option Int)
  | drop (n : Str)
  | rename (n m : Str)
  | dfl (n : Str) (d : Option Int)
  | grt (n : Str) (g : Int) (w : Str)
  | fill (n : Str) (i : Int)
def vO : Option Int → V
  | none => .non
  | some i => .int i
def Chg.vals : Chg → List V
  | .add n g d => [.str "add", .str n, .int g, vO d]
  | .drop n => [.str "drop", .str n]
  | .rename n m => [.str "rename", .str n, .str m]
  | .dfl n d => [.str "default", .str n, vO d]
  | .grt n g w => [.str "greatest", .str n, .int g, .str w]
  | .fill n i => [.str "fill", .str n, .int i]
def Chg.name : Chg → Str
  | .add n _ _ => n
  | .drop n => n
  | .rename n _ => n
  | .dfl n _ => n
  | .grt n _ _ => n
  | .fill n _ => n
/-- the names that the law draws -/
def Nm (n : Str) : Prop := n = ("a" : Str) ∨ n = ("b" : Str) ∨ n = ("cc" : Str)
def ValO (m : Int) (d : Option Int) : Prop := ∀ i, d = some i → 0 ≤ i ∧ i ≤ m
def Way (w : Str) : Prop := w = ("cut" : Str) ∨ w = ("none" : Str) ∨ w = ("refuse" : Str)
def ChgOk (m : Int) : Chg → Prop
  | .add n g d => Nm n ∧ (1 ≤ g ∧ g ≤ m) ∧ ValO m d
  | .drop n => Nm n
  | .rename n k => Nm n ∧ Nm k
  | .dfl n d => Nm n ∧ ValO m d
  | .grt n g w => Nm n ∧ (1 ≤ g ∧ g ≤ m) ∧ Way w
  | .fill n i => Nm n ∧ 0 ≤ i ∧ i ≤ m
structure ColOk (m : Int) (c : Col) : Prop where
  name : Nm c.name
  most : 1 ≤ c.most ∧ c.most ≤ m
  dflt : ValO c.most c.dflt
theorem ChgOk.nm {m : Int} : ∀ {c : Chg}, ChgOk m c → Nm c.name
  | .add _ _ _, h => h.1
  | .drop _, h => h
  | .rename _ _, h => h.1
  | .dfl _ _, h => h.1
  | .grt _ _ _, h => h.1
  | .fill _ _, h => h.1

/-! ### what changes do to columns -/
def Has (cols : List Col) (n : Str) : Prop := ∃ c ∈ cols, c.name = n
def Good (cols : List Col) : Chg → Prop
  | .add n g d => ¬ Has cols n ∧ cols.length ≤ 5 ∧ ValO g d
  | .drop n => Has cols n ∧ cols.length ≠ 1
  | .rename n k => Has cols n ∧ ¬ Has cols k
  | .dfl n d => Has cols n ∧ ∀ c ∈ cols, c.name = n → ValO c.most d
  | .grt n g w => Has cols n ∧ ∀ c ∈ cols, c.name = n → w = ("refuse" : Str) → ∀ i, c.dflt = some i → i ≤ g
  | .fill n i => Has cols n ∧ ∀ c ∈ cols, c.name = n → i ≤ c.most
def cutO (g : Int) (w : Str) : Option Int → Option Int
  | none => none
  | some i => if i ≤ g then some i else if w = ("cut" : Str) then some g else none
def colThen (c : Col) : Chg → Col
  | .rename _ k => ⟨k, c.most, c.dflt⟩
  | .dfl _ d => ⟨c.name, c.most, d⟩
  | .grt _ g w => ⟨c.name, g, cutO g w c.dflt⟩
  | _ => c
def thenC (cols : List Col) : Chg → List Col
  | .add n g d => cols ++ [⟨n, g, d⟩]
  | .drop n => cols.filter fun c => !decide (c.name = n)
  | c => cols.map fun col => if col.name = c.name then colThen col c else col
structure ColsOk (cols : List Col) : Prop where
  each : ∀ c ∈ cols, ColOk 3 c
  nd : (cols.map (·.name)).Nodup
  most : cols.length ≤ 6
def Chain : List Col → List Chg → Prop
  | _, [] => True
  | cols, c :: cs => Good cols c ∧ Chain (thenC cols c) cs
def lastC (cols : List Col) (cs : List Chg) : List Col := cs.foldl thenC cols
theorem lastC_snoc (cols : List Col) (cs : List Chg) (c : Chg) : lastC cols (cs ++ [c]) = thenC (lastC cols cs) c := by
  unfold lastC
  rw [List.foldl_append]
  rfl
theorem chain_snoc : ∀ {cs : List Chg} {cols : List Col} {c : Chg}, Chain cols cs → Good (lastC cols cs) c → Chain cols (cs ++ [c])
  | [], _, _, _, g => ⟨g, trivial⟩
  | _ :: _, _, _, h, g => ⟨h.1, chain_snoc h.2 g⟩
theorem chain_take : ∀ {cs : List Chg} {cols : List Col} {c : Chg} {i : Nat}, Chain cols cs → cs[i]? = some c → Good (lastC cols (cs.take i)) c
  | [], _, _, _, _, e => by simp at e
  | x :: r, cols, c, 0, h, e => by
    have e1 : x = c := Option.some.inj e
    rw [← e1]
    exact h.1
  | x :: r, cols, c, i + 1, h, e => chain_take (cs := r) (cols := thenC cols x) h.2 (by simpa using e)
theorem nodup_one {cols : List Col} (nd : (cols.map (·.name)).Nodup) {c d : Col} (hc : c ∈ cols) (hd : d ∈ cols) (e : c.name = d.name) : c = d := by
  induction cols with
  | nil => cases hc
  | cons x r ih =>
    rw [List.map_cons] at nd
    obtain ⟨n1, n2⟩ := List.nodup_cons.mp nd
    rcases List.mem_cons.mp hc with h1 | h1
    · rcases List.mem_cons.mp hd with h2 | h2
      · rw [h1, h2]
      · exact absurd (List.mem_map.mpr ⟨d, h2, by rw [← e, h1]⟩) n1
    · rcases List.mem_cons.mp hd with h2 | h2
      · exact absurd (List.mem_map.mpr ⟨c, h1, by rw [e, h2]⟩) n1
      · exact ih n2 h1 h2
theorem nodup_snoc {l : List Str} {n : Str} (nd : l.Nodup) (h : n ∉ l) : (l ++ [n]).Nodup := by
  rw [List.nodup_append]
  refine ⟨nd, by simp, fun a ha b hb => ?_⟩
  rw [List.mem_singleton.mp hb]
  intro e
  exact h (e ▸ ha)
theorem has_names {cols : List Col} {n : Str} : Has cols n ↔ n ∈ cols.map (·.name) :=
  ⟨fun ⟨c, hc, e⟩ => List.mem_map.mpr ⟨c, hc, e⟩, fun h => let ⟨c, hc, e⟩ := List.mem_map.mp h; ⟨c, hc, e⟩⟩
theorem map_same {cols : List Col} {f : Col → Col} (h : ∀ c ∈ cols, (f c).name = c.name) : (cols.map f).map (·.name) = cols.map (·.name) := by
  rw [List.map_map]
  exact List.map_congr_left fun c hc => h c hc
theorem nodup_swap {n k : Str} : ∀ {l : List Str}, l.Nodup → k ∉ l → (l.map fun x => if x = n then k else x).Nodup
  | [], _, _ => List.nodup_nil
  | x :: r, nd, h => by
    obtain ⟨n1, n2⟩ := List.nodup_cons.mp nd
    have hk : k ∉ r := fun m => h (List.mem_cons.mpr (.inr m))
    have hx : k ≠ x := fun m => h (List.mem_cons.mpr (.inl m))
    rw [List.map_cons]
    refine List.nodup_cons.mpr ⟨fun m => ?_, nodup_swap n2 hk⟩
    obtain ⟨y, hy, e⟩ := List.mem_map.mp m
    by_cases hxn : x = n
    · rw [if_pos hxn] at e
      by_cases hyn : y = n
      · exact n1 (by rw [hxn, ← hyn]; exact hy)
      · rw [if_neg hyn] at e
        exact hk (e ▸ hy)
    · rw [if_neg hxn] at e
      by_cases hyn : y = n
      · rw [if_pos hyn] at e
        exact hx e
      · rw [if_neg hyn] at e
        exact n1 (e ▸ hy)
theorem cutO_ok {g m : Int} {w : Str} {d : Option Int} (hg : 1 ≤ g) (hd : ValO m d) : ValO g (cutO g w d) := by
  intro i e
  cases d with
  | none => cases e
  | some j =>
    have hj := hd j rfl
    have e' : (if j ≤ g then some j else if w = ("cut" : Str) then some g else none) = some i := e
    by_cases h1 : j ≤ g
    · rw [if_pos h1] at e'
      have e2 := Option.some.inj e'
      omega
    · rw [if_neg h1] at e'
      by_cases h2 : w = ("cut" : Str)
      · rw [if_pos h2] at e'
        have e2 := Option.some.inj e'
        omega
      · rw [if_neg h2] at e'
        cases e'
theorem thenC_ok {cols : List Col} {c : Chg} (h : ColsOk cols) (hc : ChgOk 3 c) (g : Good cols c) : ColsOk (thenC cols c) := by
  cases c with
  | add n gr d =>
    obtain ⟨g1, g2, g3⟩ := g
    obtain ⟨c1, c2, c3⟩ := hc
    refine ⟨fun x hx => ?_, ?_, ?_⟩
    · rcases List.mem_append.mp (show x ∈ cols ++ [⟨n, gr, d⟩] from hx) with h1 | h1
      · exact h.each x h1
      · rw [List.mem_singleton.mp h1]
        exact ⟨c1, c2, g3⟩
    · show ((cols ++ [(⟨n, gr, d⟩ : Col)]).map (·.name)).Nodup
      rw [List.map_append]
      exact nodup_snoc h.nd fun m => g1 (has_names.mpr m)
    · show (cols ++ [(⟨n, gr, d⟩ : Col)]).length ≤ 6
      rw [List.length_append, List.length_singleton]
      omega
  | drop n =>
    refine ⟨fun x hx => h.each x (List.mem_filter.mp (show x ∈ cols.filter _ from hx)).1, ?_, Nat.le_trans (List.length_filter_le _ _) h.most⟩
    exact h.nd.sublist (List.Sublist.map _ List.filter_sublist)
  | rename n k =>
    obtain ⟨g1, g2⟩ := g
    obtain ⟨c1, c2⟩ := hc
    refine ⟨fun x hx => ?_, ?_, ?_⟩
    · obtain ⟨y, hy, e⟩ := List.mem_map.mp (show x ∈ cols.map (fun col => if col.name = n then colThen col (.rename n k) else col) from hx)
      have oy := h.each y hy
      by_cases hn : y.name = n
      · rw [if_pos hn] at e
        rw [← e]
        exact ⟨c2, oy.most, oy.dflt⟩
      · rw [if_neg hn] at e
        rw [← e]
        exact oy
    · show ((cols.map (fun col => if col.name = n then colThen col (.rename n k) else col)).map (·.name)).Nodup
      have e : (cols.map (fun col => if col.name = n then colThen col (.rename n k) else col)).map (·.name) = (cols.map (·.name)).map fun x => if x = n then k else x := by
        rw [List.map_map, List.map_map]
        refine List.map_congr_left fun c _ => ?_
        show (if c.name = n then colThen c (.rename n k) else c).name = if c.name = n then k else c.name
        by_cases hn : c.name = n
        · rw [if_pos hn, if_pos hn]
          rfl
        · rw [if_neg hn, if_neg hn]
      rw [e]
      exact nodup_swap h.nd fun m => g2 (has_names.mpr m)
    · show (cols.map _).length ≤ 6
      rw [List.length_map]
      exact h.most
  | dfl n d =>
    obtain ⟨g1, g2⟩ := g
    refine ⟨fun x hx => ?_, ?_, ?_⟩
    · obtain ⟨y, hy, e⟩ := List.mem_map.mp (show x ∈ cols.map (fun col => if col.name = n then colThen col (.dfl n d) else col) from hx)
      have oy := h.each y hy
      by_cases hn : y.name = n
      · rw [if_pos hn] at e
        rw [← e]
        exact ⟨oy.name, oy.most, g2 y hy hn⟩
      · rw [if_neg hn] at e
        rw [← e]
        exact oy
    · show ((cols.map (fun col => if col.name = n then colThen col (.dfl n d) else col)).map (·.name)).Nodup
      rw [map_same fun c _ => by
        by_cases hn : c.name = n
        · rw [if_pos hn]
          rfl
        · rw [if_neg hn]]
      exact h.nd
    · show (cols.map _).length ≤ 6
      rw [List.length_map]
      exact h.most
  | grt n gr w =>
    obtain ⟨c1, c2, c3⟩ := hc
    refine ⟨fun x hx => ?_, ?_, ?_⟩
    · obtain ⟨y, hy, e⟩ := List.mem_map.mp (show x ∈ cols.map (fun col => if col.name = n then colThen col (.grt n gr w) else col) from hx)
      have oy := h.each y hy
      by_cases hn : y.name = n
      · rw [if_pos hn] at e
        rw [← e]
        exact ⟨oy.name, c2, cutO_ok c2.1 oy.dflt⟩
      · rw [if_neg hn] at e
        rw [← e]
        exact oy
    · show ((cols.map (fun col => if col.name = n then colThen col (.grt n gr w) else col)).map (·.name)).Nodup
      rw [map_same fun c _ => by
        by_cases hn : c.name = n
        · rw [if_pos hn]
          rfl
        · rw [if_neg hn]]
      exact h.nd
    · show (cols.map _).length ≤ 6
      rw [List.length_map]
      exact h.most
  | fill n i =>
    have e : thenC cols (.fill n i) = cols := by
      show cols.map (fun col => if col.name = n then col else col) = cols
      rw [show (fun col : Col => if col.name = n then col else col) = id from funext fun c => by by_cases hn : c.name = n <;> simp [hn]]
      exact List.map_id _
    rw [e]
    exact h
theorem lastC_ok : ∀ {cs : List Chg} {cols : List Col}, ColsOk cols → (∀ c ∈ cs, ChgOk 3 c) → Chain cols cs → ColsOk (lastC cols cs)
  | [], _, h, _, _ => h
  | c :: r, cols, h, hc, ch => lastC_ok (cs := r) (cols := thenC cols c) (thenC_ok h (hc c (List.mem_cons_self ..)) ch.1) (fun x hx => hc x (List.mem_cons_of_mem _ hx)) ch.2
theorem chain_pre : ∀ {cs : List Chg} {cols : List Col} (i : Nat), Chain cols cs → Chain cols (cs.take i)
  | [], _, i, _ => by rw [List.take_nil]; trivial
  | _ :: _, _, 0, _ => trivial
  | _ :: _, _, i + 1, h => ⟨h.1, chain_pre i h.2⟩
end Ed
/-! Editionrows: the texts as plain data. -/
namespace Ed
open PySem L2 TL

def numS (i : Int) : Str := Str.ofString (toString i)
def vtS : Option Int → Str
  | none => ("-" : Str)
  | some i => numS i
def partS : V → Str
  | .str s => s
  | .int i => numS i
  | _ => ("-" : Str)
def Chg.words (c : Chg) : List Str := c.vals.map partS
def Chg.text (c : Chg) : Str := Txt.join (" " : Str) c.words
def Col.words (c : Col) : List Str := [("column" : Str), c.name, numS c.most, vtS c.dflt]
def Col.text (c : Col) : Str := Txt.join (" " : Str) c.words
def histText (cols : List Col) (cs : List Chg) : Str := Txt.join ("\n" : Str) (cols.map Col.text ++ cs.map Chg.text)
def toldText (t : List (Str × Option Int)) : Str := Txt.join (" " : Str) (t.map fun p => p.1 ++ (" " : Str) ++ vtS p.2)
def toldWords : List (Str × Option Int) → List Str
  | [] => []
  | p :: r => p.1 :: vtS p.2 :: toldWords r

/-! ### numbers to 99 -/
def chkN (n : Nat) : Bool := let l := numL n
  ((l.length == 1) || ((l.length == 2) && l.head? != some 48)) && ((l.all fun c => decide (48 ≤ c) && decide (c ≤ 57)) && ((n == 0) || l != [48]))
theorem chk_all : ∀ n : Nat, n < 100 → chkN n = true := by decide +kernel
theorem tl_numS {i : Int} (h : 0 ≤ i) : tl (numS i) = numL i.toNat := by
  obtain ⟨n, rfl⟩ := Int.eq_ofNat_of_zero_le h
  exact tl_num n
structure NumOk (s : Str) : Prop where
  len : 1 ≤ s.length ∧ s.length ≤ 2
  fig : ∀ c ∈ tl s, 48 ≤ c ∧ c ≤ 57
  first : s.length ≠ 1 → ∃ c, s.cps[0]? = some c ∧ c ≠ 48
theorem num_ok {i : Int} (h0 : 0 ≤ i) (h1 : i ≤ 99) : NumOk (numS i) := by
  have e := tl_numS h0
  have c := chk_all i.toNat (by omega)
  unfold chkN at c
  rw [← e] at c
  simp only [Bool.and_eq_true, Bool.or_eq_true, List.all_eq_true, decide_eq_true_eq, beq_iff_eq, bne_iff_ne] at c
  obtain ⟨c1, c2, c3⟩ := c
  have hl := len_tl (numS i)
  refine ⟨?_, c2, fun hne => ?_⟩
  · rcases c1 with c1 | ⟨c1, _⟩ <;> omega
  · rcases c1 with c1 | ⟨c1, c4⟩
    · exact absurd (hl.trans c1) hne
    · have h2 : 0 < (tl (numS i)).length := by omega
      refine ⟨(tl (numS i))[0], ?_, fun e0 => c4 ?_⟩
      · rw [← Array.getElem?_toList]
        exact List.getElem?_eq_getElem h2
      · rw [List.head?_eq_getElem?, List.getElem?_eq_getElem h2, e0]
theorem num_ne0 {i : Int} (h0 : 1 ≤ i) (h1 : i ≤ 99) : numS i ≠ ("0" : Str) := by
  intro q
  have e := tl_numS (show 0 ≤ i by omega)
  have c := chk_all i.toNat (by omega)
  unfold chkN at c
  rw [← e] at c
  simp only [Bool.and_eq_true, Bool.or_eq_true, List.all_eq_true, decide_eq_true_eq, beq_iff_eq, bne_iff_ne] at c
  obtain ⟨c1, c2, c3⟩ := c
  rcases c3 with c3 | c3
  · omega
  · exact c3 (by rw [q]; decide +kernel)
theorem num_int {i : Int} (h0 : 0 ≤ i) (h1 : i ≤ 99) : PySem.intText? (numS i) = some i := by
  obtain ⟨n, rfl⟩ := Int.eq_ofNat_of_zero_le h0
  have hn : n < 10 ^ 2 := by omega
  exact int_num (Nat.le_trans (numL_len (k := 2) (by decide) hn) (by decide))
theorem num_dash {i : Int} (h0 : 0 ≤ i) (h1 : i ≤ 99) : numS i ≠ ("-" : Str) := by
  intro q
  have c := (num_ok h0 h1).fig 45 (by rw [q]; decide +kernel)
  omega
theorem num_log {i : Int} (h0 : 0 ≤ i) (h1 : i ≤ 99) : i.natAbs.log2 < 1920 := by
  have h : i.natAbs.log2 ≤ i.natAbs := Nat.log2_le_self _
  omega

/-! ### words -/
structure Wd (s : Str) : Prop where
  sp : 32 ∉ tl s
  nl : 10 ∉ tl s
  len : s.length ≤ 8
theorem wd_num {i : Int} (h0 : 0 ≤ i) (h1 : i ≤ 99) : Wd (numS i) := by
  have n := num_ok h0 h1
  refine ⟨fun m => ?_, fun m => ?_, by have := n.len; omega⟩
  · have := n.fig _ m
    omega
  · have := n.fig _ m
    omega
theorem wd_dash : Wd ("-" : Str) := ⟨by decide +kernel, by decide +kernel, by decide +kernel⟩
theorem wd_vt {m : Int} {d : Option Int} (h : ValO m d) (hm : m ≤ 99) : Wd (vtS d) := by
  cases d with
  | none => exact wd_dash
  | some i =>
    have := h i rfl
    exact wd_num (by omega) (by omega)
/-- a name -/
structure NameOk (s : Str) : Prop where
  len : 1 ≤ s.length ∧ s.length ≤ 8
  let_ : ∀ c ∈ tl s, c ∈ tl ("abcdefghijklmnopqrstuvwxyz" : Str)
theorem name_a : NameOk ("a" : Str) := ⟨by decide +kernel, by decide +kernel⟩
theorem name_b : NameOk ("b" : Str) := ⟨by decide +kernel, by decide +kernel⟩
theorem name_cc : NameOk ("cc" : Str) := ⟨by decide +kernel, by decide +kernel⟩
theorem Nm.ok {n : Str} (h : Nm n) : NameOk n := by
  rcases h with rfl | rfl | rfl
  · exact name_a
  · exact name_b
  · exact name_cc
theorem lets : ∀ c ∈ tl ("abcdefghijklmnopqrstuvwxyz" : Str), 97 ≤ c ∧ c ≤ 122 := by decide +kernel
theorem NameOk.wd {n : Str} (h : NameOk n) : Wd n := by
  refine ⟨fun m => ?_, fun m => ?_, h.len.2⟩
  · have := lets _ (h.let_ _ m)
    omega
  · have := lets _ (h.let_ _ m)
    omega
theorem NameOk.dash {n : Str} (h : NameOk n) : n ≠ ("-" : Str) := fun q => by
  have := lets _ (h.let_ 45 (by rw [q]; decide +kernel))
  omega
theorem wd_way {w : Str} (h : Way w) : Wd w := by
  rcases h with rfl | rfl | rfl
  · exact ⟨by decide +kernel, by decide +kernel, by decide +kernel⟩
  · exact ⟨by decide +kernel, by decide +kernel, by decide +kernel⟩
  · exact ⟨by decide +kernel, by decide +kernel, by decide +kernel⟩
theorem wd_kind : ∀ s ∈ [("add" : Str), "drop", "rename", "default", "greatest", "fill", "column"], Wd s := by
  intro s hs
  have h : (decide (32 ∉ tl s) && (decide (10 ∉ tl s) && decide (s.length ≤ 8))) = true := by
    have a : [("add" : Str), "drop", "rename", "default", "greatest", "fill", "column"].all (fun s => decide (32 ∉ tl s) && (decide (10 ∉ tl s) && decide (s.length ≤ 8))) = true := by decide +kernel
    exact List.all_eq_true.mp a s hs
  simp only [Bool.and_eq_true, decide_eq_true_eq] at h
  exact ⟨h.1, h.2.1, h.2.2⟩
theorem part_vO (d : Option Int) : partS (vO d) = vtS d := by cases d <;> rfl
theorem chg_wd {m : Int} {c : Chg} (h : ChgOk m c) (hm : m ≤ 99) : ∀ s ∈ c.words, Wd s := by
  cases c with
  | add n g d =>
    obtain ⟨h1, h2, h3⟩ := h
    intro s hs
    have hs : s ∈ [("add" : Str), n, numS g, partS (vO d)] := hs
    rw [part_vO] at hs
    simp only [List.mem_cons, List.not_mem_nil, or_false] at hs
    rcases hs with rfl | rfl | rfl | rfl
    · exact wd_kind _ (by simp)
    · exact h1.ok.wd
    · exact wd_num (by omega) (by omega)
    · exact wd_vt h3 hm
  | drop n =>
    intro s hs
    have hs : s ∈ [("drop" : Str), n] := hs
    simp only [List.mem_cons, List.not_mem_nil, or_false] at hs
    rcases hs with rfl | rfl
    · exact wd_kind _ (by simp)
    · exact (show Nm s from h).ok.wd
  | rename n k =>
    obtain ⟨h1, h2⟩ := h
    intro s hs
    have hs : s ∈ [("rename" : Str), n, k] := hs
    simp only [List.mem_cons, List.not_mem_nil, or_false] at hs
    rcases hs with rfl | rfl | rfl
    · exact wd_kind _ (by simp)
    · exact h1.ok.wd
    · exact h2.ok.wd
  | dfl n d =>
    obtain ⟨h1, h2⟩ := h
    intro s hs
    have hs : s ∈ [("default" : Str), n, partS (vO d)] := hs
    rw [part_vO] at hs
    simp only [List.mem_cons, List.not_mem_nil, or_false] at hs
    rcases hs with rfl | rfl | rfl
    · exact wd_kind _ (by simp)
    · exact h1.ok.wd
    · exact wd_vt h2 hm
  | grt n g w =>
    obtain ⟨h1, h2, h3⟩ := h
    intro s hs
    have hs : s ∈ [("greatest" : Str), n, numS g, w] := hs
    simp only [List.mem_cons, List.not_mem_nil, or_false] at hs
    rcases hs with rfl | rfl | rfl | rfl
    · exact wd_kind _ (by simp)
    · exact h1.ok.wd
    · exact wd_num (by omega) (by omega)
    · exact wd_way h3
  | fill n i =>
    obtain ⟨h1, h2⟩ := h
    intro s hs
    have hs : s ∈ [("fill" : Str), n, numS i] := hs
    simp only [List.mem_cons, List.not_mem_nil, or_false] at hs
    rcases hs with rfl | rfl | rfl
    · exact wd_kind _ (by simp)
    · exact h1.ok.wd
    · exact wd_num (by omega) (by omega)
theorem col_wd {m : Int} {c : Col} (h : ColOk m c) (hm : m ≤ 99) : ∀ s ∈ c.words, Wd s := by
  intro s hs
  have hs : s ∈ [("column" : Str), c.name, numS c.most, vtS c.dflt] := hs
  simp only [List.mem_cons, List.not_mem_nil, or_false] at hs
  have := h.most
  rcases hs with rfl | rfl | rfl | rfl
  · exact wd_kind _ (by simp)
  · exact h.name.ok.wd
  · exact wd_num (by omega) (by omega)
  · exact wd_vt h.dflt (by omega)

/-! ### joined and split -/
theorem sp_tl : tl (" " : Str) = [32] := by decide +kernel
theorem nl_tl : tl ("\n" : Str) = [10] := by decide +kernel
theorem split_words {ws : List Str} (hne : ws ≠ []) (h : ∀ s ∈ ws, Wd s) : Txt.split (Txt.join (" " : Str) ws) (" " : Str) = ws :=
  split_join (s := 32) (S := []) sp_tl (by decide +kernel) hne fun p hp => (h p hp).sp
theorem mem_joinL {x : Nat} {S : List Nat} : ∀ {ps : List (List Nat)}, x ∈ joinL S ps → x ∈ S ∨ ∃ p ∈ ps, x ∈ p
  | [], h => by cases h
  | [p], h => .inr ⟨p, List.mem_singleton.mpr rfl, h⟩
  | p :: q :: r, h => by
    rcases List.mem_append.mp (show x ∈ p ++ (S ++ joinL S (q :: r)) from h) with h | h
    · exact .inr ⟨p, List.mem_cons_self .., h⟩
    · rcases List.mem_append.mp h with h | h
      · exact .inl h
      · rcases mem_joinL (ps := q :: r) h with h | ⟨z, hz, hx⟩
        · exact .inl h
        · exact .inr ⟨z, List.mem_cons_of_mem _ hz, hx⟩
theorem tl_joinT (y : Str) (ps : List Str) : tl (Txt.join y ps) = joinL (tl y) (ps.map tl) := by rw [join_eq, tl_join]
theorem nl_row {ws : List Str} (h : ∀ s ∈ ws, Wd s) : 10 ∉ tl (Txt.join (" " : Str) ws) := by
  intro m
  rw [tl_joinT, sp_tl] at m
  rcases mem_joinL m with m | ⟨p, hp, m⟩
  · simp at m
  · obtain ⟨s, hs, rfl⟩ := List.mem_map.mp hp
    exact (h s hs).nl m
theorem split_rows {rows : List Str} (hne : rows ≠ []) (h : ∀ s ∈ rows, 10 ∉ tl s) : Txt.split (Txt.join ("\n" : Str) rows) ("\n" : Str) = rows :=
  split_join (s := 10) (S := []) nl_tl (by decide +kernel) hne h
theorem len_joinL {S : List Nat} {k : Nat} : ∀ {ps : List (List Nat)}, (∀ p ∈ ps, p.length ≤ k) → (joinL S ps).length ≤ ps.length * (k + S.length)
  | [], _ => Nat.zero_le _
  | [p], h => by
    have := h p (List.mem_singleton.mpr rfl)
    show p.length ≤ 1 * (k + S.length)
    omega
  | p :: q :: r, h => by
    have h1 := h p (List.mem_cons_self ..)
    have h2 := len_joinL (S := S) (k := k) (ps := q :: r) fun z hz => h z (List.mem_cons_of_mem _ hz)
    show (p ++ (S ++ joinL S (q :: r))).length ≤ _
    rw [List.length_append, List.length_append, List.length_cons, Nat.succ_mul]
    omega
theorem len_join {y : Str} {k : Nat} {ps : List Str} (h : ∀ p ∈ ps, p.length ≤ k) : (Txt.join y ps).length ≤ ps.length * (k + y.length) := by
  rw [len_tl, tl_joinT, len_tl y]
  have e := len_joinL (S := tl y) (k := k) (ps := ps.map tl) fun p hp => by
    obtain ⟨s, hs, rfl⟩ := List.mem_map.mp hp
    rw [← len_tl]
    exact h s hs
  rwa [List.length_map] at e
theorem words_len (c : Chg) : c.words.length ≤ 4 ∧ 2 ≤ c.words.length := by
  have e : c.words.length = c.vals.length := List.length_map ..
  rw [e]
  cases c <;> (simp only [Chg.vals, List.length_cons, List.length_nil]; omega)
theorem words_ne (c : Chg) : c.words ≠ [] := fun e => by
  have := words_len c
  rw [e] at this
  simp at this
theorem sp_len : (" " : Str).length = 1 := by decide +kernel
theorem nl_len : ("\n" : Str).length = 1 := by decide +kernel
theorem chg_len {m : Int} {c : Chg} (h : ChgOk m c) (hm : m ≤ 99) : c.text.length ≤ 36 := by
  have e := len_join (y := (" " : Str)) (k := 8) (ps := c.words) fun p hp => (chg_wd h hm p hp).len
  have e2 := (words_len c).1
  rw [sp_len] at e
  show (Txt.join _ _).length ≤ 36
  omega
theorem col_len {m : Int} {c : Col} (h : ColOk m c) (hm : m ≤ 99) : c.text.length ≤ 36 := by
  have e := len_join (y := (" " : Str)) (k := 8) (ps := c.words) fun p hp => (col_wd h hm p hp).len
  rw [sp_len] at e
  exact e
theorem chg_split {m : Int} {c : Chg} (h : ChgOk m c) (hm : m ≤ 99) : Txt.split c.text (" " : Str) = c.words := split_words (words_ne c) (chg_wd h hm)
theorem col_split {m : Int} {c : Col} (h : ColOk m c) (hm : m ≤ 99) : Txt.split c.text (" " : Str) = c.words := split_words (by intro e; cases e) (col_wd h hm)

/-! ### a column's row, glued -/
theorem col_glued (c : Col) : ("column " : Str) ++ c.name ++ (" " : Str) ++ numS c.most ++ (" " : Str) ++ vtS c.dflt = c.text := by
  refine ext_tl ?_
  show tl _ = tl (Txt.join (" " : Str) [("column" : Str), c.name, numS c.most, vtS c.dflt])
  rw [tl_joinT]
  simp only [tl_append, List.map_cons, List.map_nil, joinL]
  rw [show tl ("column " : Str) = tl ("column" : Str) ++ tl (" " : Str) from by decide +kernel]
  simp only [List.append_assoc]
theorem empty_app (s : Str) : Str.empty ++ s = s := ext_tl (by rw [tl_append]; rfl)

/-! ### tellings -/
theorem told_glued (t : List (Str × Option Int)) : toldText t = Txt.join (" " : Str) (toldWords t) := by
  refine ext_tl ?_
  unfold toldText
  rw [tl_joinT, tl_joinT]
  induction t with
  | nil => rfl
  | cons p r ih =>
    cases r with
    | nil =>
      show tl (p.1 ++ (" " : Str) ++ vtS p.2) = tl p.1 ++ (tl (" " : Str) ++ tl (vtS p.2))
      rw [tl_append, tl_append, List.append_assoc]
    | cons q r =>
      show tl (p.1 ++ (" " : Str) ++ vtS p.2) ++ (tl (" " : Str) ++ joinL (tl (" " : Str)) (((q :: r).map fun p => p.1 ++ (" " : Str) ++ vtS p.2).map tl)) = tl p.1 ++ (tl (" " : Str) ++ (tl (vtS p.2) ++ (tl (" " : Str) ++ joinL (tl (" " : Str)) ((toldWords (q :: r)).map tl))))
      rw [ih, tl_append, tl_append, List.append_assoc, List.append_assoc]
structure ToldOk (t : List (Str × Option Int)) : Prop where
  each : ∀ p ∈ t, NameOk p.1 ∧ ValO 99 p.2
  nd : (t.map (·.1)).Nodup
  len : t.length ≤ 5
theorem told_wd : ∀ {t : List (Str × Option Int)}, (∀ p ∈ t, NameOk p.1 ∧ ValO 99 p.2) → ∀ s ∈ toldWords t, Wd s
  | [], _, s, hs => by cases hs
  | p :: r, h, s, hs => by
    have hs : s ∈ p.1 :: vtS p.2 :: toldWords r := hs
    obtain ⟨h1, h2⟩ := h p (List.mem_cons_self ..)
    rcases List.mem_cons.mp hs with rfl | hs
    · exact h1.wd
    · rcases List.mem_cons.mp hs with rfl | hs
      · exact wd_vt h2 (by decide)
      · exact told_wd (fun z hz => h z (List.mem_cons_of_mem _ hz)) s hs
theorem told_wlen : ∀ t : List (Str × Option Int), (toldWords t).length = 2 * t.length
  | [] => rfl
  | p :: r => by
    show (toldWords r).length + 1 + 1 = 2 * (r.length + 1)
    rw [told_wlen r]
    omega
theorem told_split {t : List (Str × Option Int)} (h : ToldOk t) (hne : t ≠ []) : Txt.split (toldText t) (" " : Str) = toldWords t := by
  rw [told_glued]
  refine split_words (fun e => hne ?_) (told_wd h.each)
  have := told_wlen t
  rw [e] at this
  exact List.eq_nil_of_length_eq_zero (by simp at this; omega)
theorem told_len {t : List (Str × Option Int)} (h : ToldOk t) : (toldText t).length ≤ 90 := by
  rw [told_glued]
  have e := len_join (y := (" " : Str)) (k := 8) (ps := toldWords t) fun p hp => (told_wd h.each p hp).len
  rw [sp_len, told_wlen] at e
  have := h.len
  omega
theorem told_ne {t : List (Str × Option Int)} (h : ToldOk t) (hne : t ≠ []) : toldText t ≠ ("" : Str) := by
  cases t with
  | nil => exact absurd rfl hne
  | cons p r =>
    intro e
    have h1 := (h.each p (List.mem_cons_self ..)).1.len.1
    have e2 : tl (toldText (p :: r)) = [] := by rw [e]; decide +kernel
    rw [told_glued, tl_joinT] at e2
    have e3 : tl p.1 ++ (tl (" " : Str) ++ joinL (tl (" " : Str)) ((vtS p.2 :: toldWords r).map tl)) = [] := e2
    rw [List.append_eq_nil_iff] at e3
    rw [len_tl, e3.1] at h1
    simp at h1
theorem told_even : ∀ (t : List (Str × Option Int)) (i : Nat), (toldWords t)[2 * i]? = (t[i]?).map (·.1)
  | [], i => by simp [toldWords]
  | p :: r, 0 => rfl
  | p :: r, i + 1 => by
    have e : 2 * (i + 1) = 2 * i + 1 + 1 := by omega
    show (p.1 :: vtS p.2 :: toldWords r)[2 * (i + 1)]? = _
    rw [e, List.getElem?_cons_succ, List.getElem?_cons_succ, List.getElem?_cons_succ, told_even r i]
theorem told_odd : ∀ (t : List (Str × Option Int)) (i : Nat), (toldWords t)[2 * i + 1]? = (t[i]?).map fun p => vtS p.2
  | [], i => by simp [toldWords]
  | p :: r, 0 => rfl
  | p :: r, i + 1 => by
    have e : 2 * (i + 1) + 1 = 2 * i + 1 + 1 + 1 := by omega
    show (p.1 :: vtS p.2 :: toldWords r)[2 * (i + 1) + 1]? = _
    rw [e, List.getElem?_cons_succ, List.getElem?_cons_succ, List.getElem?_cons_succ, told_odd r i]

/-! ### a history's text -/
theorem hist_split {cols : List Col} {cs : List Chg} {m : Int} (hm : m ≤ 99) (hne : cols ≠ []) (h1 : ∀ c ∈ cols, ColOk m c) (h2 : ∀ c ∈ cs, ChgOk m c) : Txt.split (histText cols cs) ("\n" : Str) = cols.map Col.text ++ cs.map Chg.text := by
  refine split_rows (fun e => hne ?_) fun s hs => ?_
  · exact List.map_eq_nil_iff.mp (List.append_eq_nil_iff.mp e).1
  · rcases List.mem_append.mp hs with hs | hs
    · obtain ⟨c, hc, rfl⟩ := List.mem_map.mp hs
      exact nl_row (col_wd (h1 c hc) hm)
    · obtain ⟨c, hc, rfl⟩ := List.mem_map.mp hs
      exact nl_row (chg_wd (h2 c hc) hm)
theorem hist_rows_len {cols : List Col} {cs : List Chg} {m : Int} (hm : m ≤ 99) (h1 : ∀ c ∈ cols, ColOk m c) (h2 : ∀ c ∈ cs, ChgOk m c) : ∀ s ∈ cols.map Col.text ++ cs.map Chg.text, s.length ≤ 36 := by
  intro s hs
  rcases List.mem_append.mp hs with hs | hs
  · obtain ⟨c, hc, rfl⟩ := List.mem_map.mp hs
    exact col_len (h1 c hc) hm
  · obtain ⟨c, hc, rfl⟩ := List.mem_map.mp hs
    exact chg_len (h2 c hc) hm
theorem hist_len {cols : List Col} {cs : List Chg} {m : Int} (hm : m ≤ 99) (h1 : ∀ c ∈ cols, ColOk m c) (h2 : ∀ c ∈ cs, ChgOk m c) : (histText cols cs).length ≤ (cols.length + cs.length) * 37 := by
  have e := len_join (y := ("\n" : Str)) (k := 36) (ps := cols.map Col.text ++ cs.map Chg.text) (hist_rows_len hm h1 h2)
  rw [nl_len, List.length_append, List.length_map, List.length_map] at e
  exact e
theorem sum_le {k : Nat} : ∀ {ps : List Str}, (∀ p ∈ ps, p.length ≤ k) → (ps.map (·.length)).sum ≤ ps.length * k
  | [], _ => Nat.zero_le _
  | p :: r, h => by
    have h1 := h p (List.mem_cons_self ..)
    have h2 := sum_le (ps := r) fun z hz => h z (List.mem_cons_of_mem _ hz)
    rw [List.map_cons, List.sum_cons, List.length_cons, Nat.succ_mul]
    omega
end Ed
/-! Editionrows: own rules: a list's slice by twos, != by an own __eq__, a tuple stored into attributes. -/
namespace Ed
open PySem PySem.Spec PyProof.Rows L2

/-! ### xs[lo::2] -/
theorem vals_pick {xs : List V} {its : List Value} (r : Vals xs its) : ∀ l : List Nat, Vals (l.filterMap (xs[·]?)) (l.filterMap (its[·]?))
  | [] => .nil
  | i :: l => by
    rw [List.filterMap_cons, List.filterMap_cons]
    cases e : xs[i]? with
    | none =>
      rw [r.none_of e]
      exact vals_pick r l
    | some x =>
      obtain ⟨u, h1, h2⟩ := r.get e
      rw [h1]
      exact .cons h2 (vals_pick r l)
theorem pick_all {α : Type} {xs : List α} : ∀ {l : List Nat}, (∀ i ∈ l, i < xs.length) → (l.filterMap (xs[·]?)).length = l.length ∧ ∀ k : Nat, (l.filterMap (xs[·]?))[k]? = (l[k]?).bind (xs[·]?)
  | [], _ => ⟨rfl, fun k => by simp⟩
  | i :: l, h => by
    have hi := h i (List.mem_cons_self ..)
    obtain ⟨h1, h2⟩ := pick_all (l := l) fun j hj => h j (List.mem_cons_of_mem _ hj)
    rw [List.filterMap_cons, List.getElem?_eq_getElem hi]
    refine ⟨by rw [List.length_cons, List.length_cons, h1], fun k => ?_⟩
    cases k with
    | zero =>
      show some xs[i] = (some i).bind (xs[·]?)
      exact (List.getElem?_eq_getElem hi).symm
    | succ k =>
      rw [List.getElem?_cons_succ, List.getElem?_cons_succ]
      exact h2 k
def twos (n off : Nat) : List Nat := (List.range n).map fun k => off + 2 * k
theorem range_twos {n : Nat} (off : Nat) (h : off = 0 ∨ off = 1) : sliceRange (max 0 (min (off : Int) ((2 * n : Nat) : Int))) ((2 * n : Nat) : Int) 2 = twos n off := by
  unfold sliceRange twos
  have h0 : (2 : Int) > 0 := by decide
  simp only [h0, if_true]
  by_cases hn : n = 0
  · subst hn
    rcases h with rfl | rfl
    · simp
    · rfl
  · have e1 : max 0 (min (off : Int) ((2 * n : Nat) : Int)) = (off : Int) := by omega
    rw [e1]
    have e2 : (off : Int) < ((2 * n : Nat) : Int) := by omega
    simp only [e2, if_true]
    have e3 : ((((2 * n : Nat) : Int) - (off : Int) + 2 - 1) / 2).toNat = n := by omega
    rw [e3]
    refine List.map_congr_left fun k _ => ?_
    omega
def offV : Option Int → Nat
  | none => 0
  | some i => i.toNat
theorem pick_twos {its : List Value} {n : Nat} {lo : Option Int} (hlo : lo = none ∨ lo = some 1) (hl : its.length = 2 * n) : slicePick its.toArray lo none (some 2) = ((twos n (offV lo)).filterMap (its[·]?)).toArray := by
  unfold slicePick
  have e0 : its.toArray.size = 2 * n := by rw [List.size_toArray, hl]
  rw [e0]
  have e : sliceRange (sliceBounds lo none (some 2) (2 * n)).1 (sliceBounds lo none (some 2) (2 * n)).2.1 (sliceBounds lo none (some 2) (2 * n)).2.2 = twos n (offV lo) := by
    rcases hlo with rfl | rfl
    · have := range_twos (n := n) 0 (.inl rfl)
      have e1 : max 0 (min ((0 : Nat) : Int) ((2 * n : Nat) : Int)) = 0 := by omega
      rw [e1] at this
      exact this
    · exact range_twos (n := n) 1 (.inr rfl)
  rw [e]
  congr 1
  refine congrArg (fun f => List.filterMap f (twos n (offV lo))) ?_
  funext i
  simp
/-- xs[lo::2] of a list of 2 n items -/
def tTwos (K : PySem.W.Frag) (lo : Option Int) (te : TE) : TE := fun σ H Q => te σ H fun x H1 => ∃ (a : Addr) (xs : List V) (n : Nat), x = .ref a ∧ SqL K H1 a xs ∧ xs.length = 2 * n ∧
  ∀ p ys, H1 p = none → ys.length = n → (∀ k, k < n → ys[k]? = xs[offV lo + 2 * k]?) → Q (.ref p) (upd H1 p (.lst ys))
section
variable {X : Cx} {pos : Pos}
theorem twos_core {e : Expr} {lo : Option Expr} {l0 : Option Int} (hlo : l0 = none ∨ l0 = some 1) {tl : TO} (hl : PO X lo tl) (hlr : ∀ σ H (Q : Option Int → Hp → Prop), Q l0 H → tl σ H Q) {te : TE} {k : Nat} {p1 p3 pos : Pos} (he : PE X e te) :
    PE X (.Subscript e (.Slice lo none (some (.Constant (.int 2) k p1)) p3) pos) (tTwos X.K l0 te) := by
  refine ⟨fun pins s σ H Q I h => ?_⟩
  refine Subscript_ (thn (he.run pins s σ H _ I h) fun v s1 ⟨x, H1, I1, r1, q1⟩ => ?_)
  obtain ⟨a, xs, n, ex, hx, hlen, q⟩ := q1
  subst ex
  cases r1
  have hst : PO X (some (.Constant (.int 2) k p1)) (tPart (tC (.int 2))) := po_some pe_int
  refine wpAny_Slice (thn (hl.run pins s1 σ H1 (fun o H2 => o = l0 ∧ H2 = H1) I1 (hlr σ H1 _ ⟨rfl, rfl⟩)) fun vl s2 ⟨l, H2, I2, pl, el, e2⟩ => ?_)
  subst el e2
  refine thn (po_none.run pins s2 σ H2 (fun o H3 => o = none ∧ H3 = H2) I2 ⟨rfl, rfl⟩) fun vu s3 ⟨u, H3, I3, pu, eu, e3⟩ => ?_
  subst eu e3
  refine thn (hst.run pins s3 σ H3 (fun o H4 => o = some 2 ∧ H4 = H3) I3 ⟨2, rfl, rfl, rfl⟩) fun vs s4 ⟨o, H4, I4, ps, eo, e4⟩ => ?_
  subst eo e4
  have I5 : Inv X pins σ H4 { s4 with heap := s4.heap.push { cls := .type "slice", data := .fields #[vl, vu, vs] } } := I4.kept (t' := s4.toks) fun b ob q => Heap.get?_push_of_some _ q
  obtain ⟨its, r, ht, hz⟩ := I5.list hx
  have hl2 := r.length
  show wpAny (model X.prog X.w) X.A (subscriptTail e (.Slice lo none (some (.Constant (.int 2) k p1)) p3) (.ref a) (.ref s4.heap.objs.size)) (EP X pins σ Q) X.xe { s4 with heap := s4.heap.push { cls := .type "slice", data := .fields #[vl, vu, vs] } }
  refine tail_any (ops := [.ref a, .ref s4.heap.objs.size]) ht.isList.typeIs (PySem.slot_list_getitem.lookup) ?_ (by with_unfolding_all rfl)
  refine wpAny_getItem_list_slice ht.isList (Heap.IsSliceOf.new _ vl vu vs) pl pu ps (by decide) ?_ (by rw [List.size_toArray]; omega)
  rw [pick_twos (n := n) hlo (by omega)]
  have hin : ∀ i ∈ twos n (offV l), i < xs.length := fun i hi => by
    obtain ⟨j, hj, rfl⟩ := List.mem_map.mp hi
    have hj2 := List.mem_range.mp hj
    have ho : offV l ≤ 1 := by
      rcases hlo with rfl | rfl
      · exact Nat.zero_le _
      · exact Nat.le_refl _
    omega
  obtain ⟨g1, g2⟩ := pick_all hin
  have hn : ((twos n (offV l)).filterMap (xs[·]?)).length = n := by
    rw [g1]
    unfold twos
    rw [List.length_map, List.length_range]
  refine ⟨.ref _, _, I5.laid (t' := s4.toks) (o := .lst ((twos n (offV l)).filterMap (xs[·]?))) (fun b ob q => Heap.get?_push_of_some _ q) (Nat.le_refl _) ?_, rfl, q _ _ (I5.hok.fresh (Nat.le_refl _)) hn fun j hj => ?_⟩
  · exact ⟨by rw [hn]; omega, _, 0, vals_pick r _, Heap.get?_push_size _ rfl⟩
  · rw [g2 j]
    have e : (twos n (offV l))[j]? = some (offV l + 2 * j) := by
      unfold twos
      rw [List.getElem?_map, List.getElem?_range hj]
      rfl
    rw [e]
    rfl
/-- xs[::2], xs[1::2] -/
theorem pe_evens {e : Expr} {te : TE} {k : Nat} {p1 p3 pos : Pos} (he : PE X e te) : PE X (.Subscript e (.Slice none none (some (.Constant (.int 2) k p1)) p3) pos) (tTwos X.K none te) :=
  twos_core (.inl rfl) po_none (fun _ _ _ q => q) he
theorem pe_odds {e : Expr} {te : TE} {k j : Nat} {p1 p2 p3 pos : Pos} (he : PE X e te) : PE X (.Subscript e (.Slice (some (.Constant (.int 1) j p2)) none (some (.Constant (.int 2) k p1)) p3) pos) (tTwos X.K (some 1) te) :=
  twos_core (.inr rfl) (po_some pe_int) (fun _ _ _ q => ⟨1, rfl, q⟩) he

/-! ### o.f = .. as a part of a tuple's target -/
def gFld (K : PySem.W.Frag) (to : TE) (f : Str) : TG := fun v σ H Q => to σ H fun x H1 => ∃ (a C dx : Addr) (fs : List (Str × V)), x = .ref a ∧ H1 a = some (.ins C dx fs) ∧ Cls K C ∧ NoAttr K C f ∧ fs.length < 1000 ∧ Q σ (upd H1 a (.ins C dx (putF f v fs)))
theorem pg_fld {o : Expr} {f : Str} {to : TE} (ho : PE X o to) : PG X (.Attribute o f pos) (gFld X.K to f) := by
  refine ⟨fun pins s σ H v u Q I r h => ?_⟩
  rw [assign_Attribute]
  refine wpAny_bind (wpAny_holding (thn (ho.run pins s σ H _ I h) fun ov s1 ⟨x, H1, I1, r1, a, C, dx, fs, ex, ea, c, n, l, q⟩ => ?_))
  subst ex
  cases (show ov = Value.ref a from r1)
  refine wpAny_bind (wpAny_standAt (wpAny_bind (wpAny_holding (setattr_ok I1 ea c n l r fun s2 I2 => ?_))))
  exact wpAny_release ⟨σ, _, I2, q⟩
end

/-! ### x != y by an own __eq__, where x == y -/
structure NeC (K : PySem.W.Frag) (C f : Addr) : Prop where
  ex : ∃ (nm q : Str) (N : Addr) (bs : List Value) (hdct : Bool) (sn : List Str) (sub : List Value) (ab : Bool) (col : Option Bool) (dd : Option Addr) (k0 k1 k2 k3 k5 : Option Value) (newId : String) (of : Obj),
    K.lookup C = some (excClassObj nm q C N bs [.type "object"] hdct sn sub ab col dd k0 k1 k2 k3 k5 newId) ∧ PySem.W.nsOkIn K N = true ∧ PySem.W.nsIn K N "__eq__" = some (some (.ref f)) ∧ PySem.W.nsIn K N "__ne__" = some none ∧
    K.lookup f = some of ∧ of.cls = .type "function"
theorem ns_some_of {K : PySem.W.Frag} {h : Heap} {N : Addr} {mg : Str → Option Value} {n : Str} {v : Value} (X : K.In h) (G : h.Ns N mg) (e : PySem.W.nsIn K N n = some (some v)) : mg n = some v := by
  obtain ⟨o, es, ep, ho, hd, _, hf⟩ := G
  unfold PySem.W.nsIn at e
  split at e
  · rename_i c d es' n' sl q
    have := X _ _ q
    rw [ho] at this
    cases this
    cases hd
    split at e
    · rename_i en he
      cases e
      rw [← hf]
      unfold nsFind findBy
      rw [← Array.find?_toList, he]
      rfl
    · split at e <;> cases e
  · cases e
def rNeG (D : Eqv) : R2 := fun x y H Q => D x y H ∧ ∀ H', L2.Ext H H' → Q (.bl false) H'
theorem op_neIns {X : Cx} {n : Nat} {CX : CXT} {C f : Addr} {fd : FuncData} {ps : List Str} {R : Addr → Addr → Hp → Prop} {E : XK} (F : FnOk X.prog X.w X.K X.mg X.base CX n f fd ps (spEq R)) (c : NeC X.K C f) (hb : Binds X.K fd ps []) (hx : Passes CX X E) (hr : Room (n + 1) X.A) :
    OpR X (compareOp .NotEq) (rNeG (DIns C R)) := by
  intro pins s σ H x y v u Q I rx ry hq
  obtain ⟨d, q⟩ := hq
  obtain ⟨a, b, dx, dy, fs, gs, rfl, rfl, ha, hb', hR⟩ := d
  cases (show v = Value.ref a from rx)
  cases (show u = Value.ref b from ry)
  obtain ⟨nm, qn, N, bs, hdct, sn, sub, ab, col, dd, k0, k1, k2, k3, k5, newId, of, lC, nok, neq, nne, lf, cf⟩ := c.ex
  have KX := I.kIn
  have J := I.hok a _ ha
  have J' := I.hok b _ hb'
  obtain ⟨_, _, _, ga, _⟩ := J
  obtain ⟨_, _, _, gb, _⟩ := J'
  have hN : s.heap.Ns N (s.heap.nsMap N) := .of_isNs (PySem.W.isNs_of_in KX nok)
  have Y : s.heap.OwnEqNoNe a C f "object" [.type "object"] :=
    ⟨_, of, nm, qn, N, bs, hdct, sn, sub, ab, col, dd, k0, k1, k2, k3, k5, newId, s.heap.nsMap N, _, ga, rfl, KX _ _ lC, hN, ns_some_of KX hN neq, KX _ _ lf, cf, PySem.F.cmp_object.mro, PySem.F.cmp_object.eq.lookup, PySem.W.ns_none_of KX hN nne⟩
  have hsp : spEq R [.ref a, .ref b] H (fun v H' => v = .bl true ∧ L2.Ext H H') E := ⟨a, b, rfl, hR, fun H' e => ⟨rfl, e⟩⟩
  have sb : Sub X n X.A.in1 := Sub.in1 ⟨hr, rfl⟩
  have e0 : Env0 X.prog X.w X.K X.mg X.base X.A.in1 X.stack s H := by
    have e := I.env0
    exact ⟨by rw [sb.fr]; exact e.frames, e.mod, e.bs, e.bsz, e.funs, e.frf, e.hok, e.bare⟩
  have hl := F.len _ _ _ _ hsp
  have r2 : Vals [V.ref a, V.ref b] [Value.ref a, Value.ref b] := .cons rfl (.cons rfl .nil)
  obtain ⟨hp, g, dr, t, os⟩ := s
  refine compareOp_ne_ownEq PySem.F.cmp_object Y gb rfl (Nat.lt_of_le_of_lt (Nat.add_le_add_left (by decide : 1 ≤ 64) _) hr.units) ?_
  refine wpAny_call (codeAny_mono (F.run X.A.in1 X.stack _ H ⟨[.ref a, .ref b], []⟩ [.ref a, .ref b] [.ref a, .ref b] _ E sb.room e0 (by
    have := hb ⟨hp, g, dr, t, os⟩ [.ref a, .ref b] KX (by simpa using hl)
    simpa using this) r2 hsp) fun r s' hq => ?_)
  cases r with
  | error e => exact hx pins σ H _ e s' I hq
  | ok fl =>
    cases fl with
    | ret w' =>
      obtain ⟨z, H', I', rz, ez, ex⟩ := I.after hq
      subst ez
      cases rz
      exact ⟨true, rfl, ⟨.bl false, H', I', rfl, q H' ex⟩⟩
    | next => exact False.elim hq
    | brk => exact False.elim hq
    | cont => exact False.elim hq
end Ed
/-! Editionrows: the text by places; what the proofs lean on of the top. (printed by gen_base.py) -/
namespace Ed
open PySem PySem.Spec PyProof.Rows L2
def top (i : Nat) : Stmt := PySem.Challenge.pw_editionrows_k73_whole_texts_there_and_ba.main.body.getD i (.Pass ⟨0, 0, 0, 0⟩)
abbrev s_is_integer : Stmt := top 16
abbrev s_is_between : Stmt := top 17
abbrev s_is_name : Stmt := top 18
abbrev s_is_value : Stmt := top 19
abbrev s_is_within : Stmt := top 20
abbrev s_is_change : Stmt := top 28
abbrev s_named : Stmt := top 29
abbrev s_why_not_add : Stmt := top 30
abbrev s_why_not : Stmt := top 31
abbrev s_narrowed : Stmt := top 32
abbrev s_changed_column : Stmt := top 33
abbrev s_changed_columns : Stmt := top 34
abbrev s_checked_columns : Stmt := top 37
abbrev s_next_number : Stmt := top 38
abbrev s_all_sheets : Stmt := top 39
abbrev s_is_numeral : Stmt := top 44
abbrev s_is_value_word : Stmt := top 45
abbrev s_value_text : Stmt := top 46
abbrev s_value_in : Stmt := top 47
abbrev s_write_change : Stmt := top 48
abbrev s_column_text : Stmt := top 49
abbrev s_write_history : Stmt := top 50
abbrev s_write_told : Stmt := top 51
abbrev s_is_greatest_word : Stmt := top 52
abbrev s_change_in : Stmt := top 53
abbrev s_short_change : Stmt := top 54
abbrev s_read_change : Stmt := top 55
abbrev s_column_in : Stmt := top 56
abbrev s_read_history : Stmt := top 57
abbrev s_told_in : Stmt := top 58
abbrev s_read_told : Stmt := top 59
abbrev s_law_pool : Stmt := top 61
abbrev s_law_draw : Stmt := top 62
abbrev s_law_pick : Stmt := top 63
abbrev s_law_value : Stmt := top 64
abbrev s_law_word : Stmt := top 65
abbrev s_law_cut : Stmt := top 66
abbrev s_law_col_then : Stmt := top 67
abbrev s_law_then : Stmt := top 68
abbrev s_law_change : Stmt := top 69
abbrev s_law_first : Stmt := top 70
abbrev s_law_history : Stmt := top 71
abbrev s_law_cols : Stmt := top 72
abbrev s_law_made : Stmt := top 73
abbrev s_law_vt : Stmt := top 74
abbrev s_law_ct : Stmt := top 75
abbrev s_law_ht : Stmt := top 76
abbrev s_law_tt : Stmt := top 77
abbrev s_law : Stmt := top 78
abbrev s_Column_init : Stmt := inClass (top 23) 0
abbrev s_Column_eq : Stmt := inClass (top 23) 1
abbrev s_Column_changed : Stmt := inClass (top 23) 4
abbrev s_History_init : Stmt := inClass (top 40) 0
abbrev s_History_eq : Stmt := inClass (top 40) 4
abbrev s_History_first_columns : Stmt := inClass (top 40) 6
abbrev s_History_changes_told : Stmt := inClass (top 40) 8
/-- a def of the module -/
def DefAt (K : PySem.W.Frag) (mg : Str → Option Value) (x : Str) (st : Stmt) : Prop := ∃ f fd, FunD K x x (defArgs st) (defBody st) (defScope st) [] [] f fd ∧ mg x = some (.ref f)
structure Txt (K : PySem.W.Frag) (mg : Str → Option Value) (w : World) (C CH : Addr) : Prop where
  b_isinstance : mg "isinstance" = none
  b_int : mg "int" = none
  b_bool : mg "bool" = none
  b_str : mg "str" = none
  b_len : mg "len" = none
  b_list : mg "list" = none
  b_tuple : mg "tuple" = none
  b_all : mg "all" = none
  b_enumerate : mg "enumerate" = none
  b_zip : mg "zip" = none
  b_max : mg "max" = none
  b_min : mg "min" = none
  b_range : mg "range" = none
  c_LETTERS : ∃ t, mg "LETTERS" = some (.str "abcdefghijklmnopqrstuvwxyz" t)
  c_MISSING : ∃ t, mg "MISSING" = some (.str "missing" t)
  c_FIGURES : ∃ t, mg "FIGURES" = some (.str "0123456789" t)
  c_NOTHING : ∃ t, mg "NOTHING" = some (.str "-" t)
  c_MOST_LETTERS : ∃ t, mg "MOST_LETTERS" = some (.int 8 t)
  c_MOST_GREATEST : ∃ t, mg "MOST_GREATEST" = some (.int 99 t)
  c_MOST_COLUMNS : ∃ t, mg "MOST_COLUMNS" = some (.int 6 t)
  c_MOST_CHANGES : ∃ t, mg "MOST_CHANGES" = some (.int 40 t)
  t_COLUMN_PARTS : ∃ a, mg "COLUMN_PARTS" = some (.ref a) ∧ ∀ H : Hp, SqT K H a [.str "name", .str "greatest", .str "default", .str "number"]
  t_WAYS : ∃ a, mg "WAYS" = some (.ref a) ∧ ∀ H : Hp, SqT K H a [.str "cut", .str "none", .str "refuse"]
  t_SIZES : ∃ d es n, mg "SIZES" = some (.ref d) ∧ KDict K w d es n ∧ ∀ q ∈ [(("add" : Str), (4 : Int)), (("drop" : Str), (2 : Int)), (("rename" : Str), (3 : Int)), (("default" : Str), (3 : Int)), (("greatest" : Str), (4 : Int)), (("fill" : Str), (3 : Int))], ∃ u, PySem.W.nsIn K d q.1 = some (some u) ∧ RelV (.int q.2) u
  g_Column : mg "Column" = some (.ref C)
  cl_Column : Cls K C
  is_Column : C8.InsC K C
  n_Column_name : NoAttr K C "name"
  n_Column_greatest : NoAttr K C "greatest"
  n_Column_default : NoAttr K C "default"
  n_Column_number : NoAttr K C "number"
  g_History : mg "History" = some (.ref CH)
  cl_History : Cls K CH
  is_History : C8.InsC K CH
  n_History_sheets : NoAttr K CH "sheets"
  n_History_given : NoAttr K CH "given"
  n_History_kept_changes : NoAttr K CH "kept_changes"
  m_Column_init : ∃ f fd, Mk K C f ∧ FunD K "__init__" "Column.__init__" (defArgs s_Column_init) (defBody s_Column_init) (defScope s_Column_init) [.non] [("number", .int 0)] f fd
  m_Column_eq : ∃ f fd, (PySem.W.findIn K (.ref C) "__eq__" = some (some (.ref f)) ∧ PySem.W.isFn K (.ref f) = true) ∧ FunD K "__eq__" "Column.__eq__" (defArgs s_Column_eq) (defBody s_Column_eq) (defScope s_Column_eq) [] [] f fd
  m_Column_changed : ∃ f fd, Meth K C "changed" f ∧ FunD K "changed" "Column.changed" (defArgs s_Column_changed) (defBody s_Column_changed) (defScope s_Column_changed) [] [] f fd
  m_History_init : ∃ f fd dv, Mk K CH f ∧ FunD K "__init__" "History.__init__" (defArgs s_History_init) (defBody s_History_init) (defScope s_History_init) [dv] [] f fd
  m_History_eq : ∃ f fd, NeC K CH f ∧ FunD K "__eq__" "History.__eq__" (defArgs s_History_eq) (defBody s_History_eq) (defScope s_History_eq) [] [] f fd
  m_History_first_columns : ∃ f fd, Meth K CH "first_columns" f ∧ FunD K "first_columns" "History.first_columns" (defArgs s_History_first_columns) (defBody s_History_first_columns) (defScope s_History_first_columns) [] [] f fd
  m_History_changes_told : ∃ f fd, Meth K CH "changes_told" f ∧ FunD K "changes_told" "History.changes_told" (defArgs s_History_changes_told) (defBody s_History_changes_told) (defScope s_History_changes_told) [] [] f fd
  d_is_integer : DefAt K mg "is_integer" s_is_integer
  d_is_between : DefAt K mg "is_between" s_is_between
  d_is_name : DefAt K mg "is_name" s_is_name
  d_is_value : DefAt K mg "is_value" s_is_value
  d_is_within : DefAt K mg "is_within" s_is_within
  d_is_change : DefAt K mg "is_change" s_is_change
  d_named : DefAt K mg "named" s_named
  d_why_not_add : DefAt K mg "why_not_add" s_why_not_add
  d_why_not : DefAt K mg "why_not" s_why_not
  d_narrowed : DefAt K mg "narrowed" s_narrowed
  d_changed_column : DefAt K mg "changed_column" s_changed_column
  d_changed_columns : DefAt K mg "changed_columns" s_changed_columns
  d_checked_columns : DefAt K mg "checked_columns" s_checked_columns
  d_next_number : DefAt K mg "next_number" s_next_number
  d_all_sheets : DefAt K mg "all_sheets" s_all_sheets
  d_is_numeral : DefAt K mg "is_numeral" s_is_numeral
  d_is_value_word : DefAt K mg "is_value_word" s_is_value_word
  d_value_text : DefAt K mg "value_text" s_value_text
  d_value_in : DefAt K mg "value_in" s_value_in
  d_write_change : DefAt K mg "write_change" s_write_change
  d_column_text : DefAt K mg "column_text" s_column_text
  d_write_history : DefAt K mg "write_history" s_write_history
  d_write_told : DefAt K mg "write_told" s_write_told
  d_is_greatest_word : DefAt K mg "is_greatest_word" s_is_greatest_word
  d_change_in : DefAt K mg "change_in" s_change_in
  d_short_change : DefAt K mg "short_change" s_short_change
  d_read_change : DefAt K mg "read_change" s_read_change
  d_column_in : DefAt K mg "column_in" s_column_in
  d_read_history : DefAt K mg "read_history" s_read_history
  d_told_in : DefAt K mg "told_in" s_told_in
  d_read_told : DefAt K mg "read_told" s_read_told
  d_law_pool : DefAt K mg "_law_pool" s_law_pool
  d_law_draw : DefAt K mg "_law_draw" s_law_draw
  d_law_pick : DefAt K mg "_law_pick" s_law_pick
  d_law_value : DefAt K mg "_law_value" s_law_value
  d_law_word : DefAt K mg "_law_word" s_law_word
  d_law_cut : DefAt K mg "_law_cut" s_law_cut
  d_law_col_then : DefAt K mg "_law_col_then" s_law_col_then
  d_law_then : DefAt K mg "_law_then" s_law_then
  d_law_change : DefAt K mg "_law_change" s_law_change
  d_law_first : DefAt K mg "_law_first" s_law_first
  d_law_history : DefAt K mg "_law_history" s_law_history
  d_law_cols : DefAt K mg "_law_cols" s_law_cols
  d_law_made : DefAt K mg "_law_made" s_law_made
  d_law_vt : DefAt K mg "_law_vt" s_law_vt
  d_law_ct : DefAt K mg "_law_ct" s_law_ct
  d_law_ht : DefAt K mg "_law_ht" s_law_ht
  d_law_tt : DefAt K mg "_law_tt" s_law_tt
  d_law : DefAt K mg "law" s_law
/-- a def that may be called by its name -/
abbrev Cal := C8.Cal
section
variable {P : Program} {w : World} {K : PySem.W.Frag} {mg : Str → Option Value} {base : Heap}
theorem cal_of {x : Str} {st : Stmt} {N ps : List Str} {k : Nat} {sp : Sp} (D : DefAt K mg x st) (S : FnScope N ps (defScope st))
    (hb : ∀ (kV doc pm : Value) (an : Option Addr) (cdv ct : Value) (us : List Value), us.length = ps.length → bindArgs (PySem.W.fnOf x x (defArgs st) (defBody st) (defScope st) .none kV doc pm an cdv ct) ⟨us, []⟩ = pure (ps.zip us))
    (len : ∀ vs H Q E, sp vs H Q E → vs.length = ps.length)
    (hbody : ∀ (f : Addr) (cdv : Value) (A : Around) (outer : List Env) (s : Shared) (H : Hp) (vs : List V) (Q : VK) (E : XK), Room k (A.deeper (envOfC x (defScope st) s.heap.objs.size f cdv)) → sp vs H Q E →
      ∃ t, PSs (cxOf CX0 P w K mg base N x (defScope st) f cdv A outer s H E).nox (defBody st) t ∧ t { nx := fun _ H' => Q .non H', rt := Q } (start N vs) H) : Cal P w K mg base (k + 1) x sp [] := by
  obtain ⟨f, fd, F, hm⟩ := D
  refine ⟨f, fd, ps, [], F.ok S len fun cdv A outer s H vs Q E hr h => ?_, hm, F.kp, F.bindsN hb, .nil⟩
  obtain ⟨t, h1, h2⟩ := hbody f cdv A outer s H vs Q E hr h
  exact ⟨t, PSs.nox h1, h2⟩
/-- a promise kept, its body: with FunD, whatever the class -/
theorem fnd_of {x qual : Str} {params : Arguments} {body : List Stmt} {scope : Scope} {dvs : List V} {kws : List (Str × V)} {f : Addr} {fd : FuncData} {N ps : List Str} {k : Nat} {sp : Sp} (F : FunD K x qual params body scope dvs kws f fd) (S : FnScope N ps scope)
    (len : ∀ vs H Q E, sp vs H Q E → vs.length = ps.length)
    (hbody : ∀ (cdv : Value) (A : Around) (outer : List Env) (s : Shared) (H : Hp) (vs : List V) (Q : VK) (E : XK), Room k (A.deeper (envOfC qual scope s.heap.objs.size f cdv)) → sp vs H Q E →
      ∃ t, PSs (cxOf CX0 P w K mg base N qual scope f cdv A outer s H E).nox body t ∧ t { nx := fun _ H' => Q .non H', rt := Q } (start N vs) H) : FnOk P w K mg base CX0 (k + 1) f fd ps sp :=
  F.ok S len fun cdv A outer s H vs Q E hr h => by
    obtain ⟨t, h1, h2⟩ := hbody cdv A outer s H vs Q E hr h
    exact ⟨t, PSs.nox h1, h2⟩
end
end Ed
/-! Editionrows: isinstance in short; values.py. -/
namespace Ed
open PySem PySem.Spec PyProof.Rows L2

/-! ### isinstance(x, T), T a built-in type -/
def rIsTyp (K : PySem.W.Frag) : List V → Hp → VK → Prop := fun xs H Q => ∃ (x : V) (t T : String) (b : Bool), xs = [x, .ty T] ∧ TyX K H x (.type t) ∧ kitB t T = some b ∧ Q (.bl b) H
theorem call_isTyp {X : Cx} : CallR X (.builtin "isinstance") (rIsTyp X.K) := fun pins s σ H xs us Q I r h => by
  obtain ⟨x, t, T, b, rfl, h1, h2, h3⟩ := h
  exact call_isi pins s σ H _ us Q I r ⟨x, .ty T, .type t, .type T, b, rfl, .ty T, h1, kit_ty h2, h3⟩
/-- a built-in type's name as a value -/
theorem pTy {X : Cx} {x : Str} {n : String} {pos : Pos} (hm : X.mg x = none) (hv : bootBuiltins x = some (.type n)) (hg : Gl X x := by rfl) (hn : x ≠ "__name__" := by decide) (hd : (x == ("__debug__" : Str)) = false := by decide) : PE X (.Name x pos) (tC (.ty n)) :=
  pe_bltn (v := .ty n) hg hm hv rfl hn hd
/-- a text, an int of the module by its name -/
theorem pGs {X : Cx} {x z : Str} {pos : Pos} (h : ∃ t, X.mg x = some (.str z t)) (hg : Gl X x := by rfl) (hd : (x == ("__debug__" : Str)) = false := by decide) : PE X (.Name x pos) (tC (.str z)) := by
  obtain ⟨t, h⟩ := h
  exact pe_glob hg h ⟨t, rfl⟩ hd
theorem pGi {X : Cx} {x : Str} {i : Int} {pos : Pos} (h : ∃ t, X.mg x = some (.int i t)) (hg : Gl X x := by rfl) (hd : (x == ("__debug__" : Str)) = false := by decide) : PE X (.Name x pos) (tC (.int i)) := by
  obtain ⟨t, h⟩ := h
  exact pe_glob hg h ⟨t, rfl⟩ hd
theorem kit_ii : kitB "int" "int" = some true := by decide +kernel
theorem kit_ib : kitB "int" "bool" = some false := by decide +kernel
theorem kit_ss : kitB "str" "str" = some true := by decide +kernel
theorem kit_is : kitB "int" "str" = some false := by decide +kernel
theorem kit_ns : kitB "NoneType" "str" = some false := by decide +kernel
theorem kit_tt : kitB "tuple" "tuple" = some true := by decide +kernel
theorem ty_i {K : PySem.W.Frag} {H : Hp} (i : Int) : TyX K H (.int i) (.type "int") := .base (.int i)
theorem ty_s {K : PySem.W.Frag} {H : Hp} (s : Str) : TyX K H (.str s) (.type "str") := .base (.str s)
theorem ty_n {K : PySem.W.Frag} {H : Hp} : TyX K H .non (.type "NoneType") := .base .non

theorem qb {Q : VK} {H : Hp} {a b : Bool} (e : a = b) (q : Q (.bl b) H) : Q (.bl a) H := e ▸ q
section
variable {P : Program} {w : World} {K : PySem.W.Frag} {mg : Str → Option Value} {base : Heap} {C CH : Addr}
/-! ### is_integer -/
def spIsInteger : Sp := fun vs H Q _ => ∃ i : Int, vs = [.int i] ∧ Q (.bl true) H
theorem sc_is_integer : FnScope ["value"] ["value"] (defScope s_is_integer) := ⟨rfl, rfl, rfl, by decide +kernel, rfl, by decide +kernel, by decide +kernel⟩
theorem ok_is_integer (T : Txt K mg w C CH) : Cal P w K mg base 1 "is_integer" spIsInteger [] := by
  refine cal_of T.d_is_integer sc_is_integer (fun _ _ _ _ _ _ us hl => match us, hl with | [_], _ => rfl) (fun vs H Q E h => ?_) (fun f cdv A outer s H vs Q E hr h => ?_)
  · obtain ⟨i, rfl, _⟩ := h
    rfl
  · obtain ⟨i, rfl, k⟩ := h
    refine ⟨_, pss_one (ps_ret (pe_and (pe_callB call_isTyp rfl T.b_isinstance boot_isinstance (pa_cons (pv 0) (pa_cons (pTy T.b_int boot_int) pa_nil)))
      (pe_one (pe_not (pe_callB call_isTyp rfl T.b_isinstance boot_isinstance (pa_cons (pv 0) (pa_cons (pTy T.b_bool boot_bool) pa_nil))))))), ?_⟩
    refine ⟨_, rfl, _, _, _, _, rfl, ty_i i, kit_ii, _, rfl, iteT ?_⟩
    exact ⟨_, rfl, _, _, _, _, rfl, ty_i i, kit_ib, _, rfl, k⟩
/-! ### is_between -/
def spIsBetween : Sp := fun vs H Q _ => ∃ i a b : Int, vs = [.int i, .int a, .int b] ∧ Q (.bl (decide (a ≤ i ∧ i ≤ b))) H
theorem sc_is_between : FnScope ["value", "least", "most"] ["value", "least", "most"] (defScope s_is_between) := ⟨rfl, rfl, rfl, by decide +kernel, rfl, by decide +kernel, by decide +kernel⟩
theorem ok_is_between (T : Txt K mg w C CH) : Cal P w K mg base 2 "is_between" spIsBetween [] := by
  refine cal_of T.d_is_between sc_is_between (fun _ _ _ _ _ _ us hl => match us, hl with | [_, _, _], _ => rfl) (fun vs H Q E h => ?_) (fun f cdv A outer s H vs Q E hr h => ?_)
  · obtain ⟨i, a, b, rfl, _⟩ := h
    rfl
  · obtain ⟨i, a, b, rfl, k⟩ := h
    refine ⟨_, pss_one (ps_ret (pe_and (C8.pe_c (ok_is_integer T) hr (by decide) rfl (pa_cons (pv 0) pa_nil)) (pe_one (pe_chain op_le op_le (pv 1) (pv 0) (pv 2))))), ?_⟩
    refine ⟨_, rfl, i, rfl, _, rfl, iteT ?_⟩
    refine ⟨_, rfl, _, rfl, a, i, rfl, rfl, _, rfl, ?_⟩
    by_cases h1 : a ≤ i
    · rw [if_pos (decide_eq_true h1)]
      refine ⟨_, rfl, i, b, rfl, rfl, ?_⟩
      exact qb (Q := Q) (by simp [h1]) k
    · rw [if_neg (by simp [h1])]
      rw [show decide (a ≤ i ∧ i ≤ b) = false from decide_eq_false fun z => h1 z.1] at k
      exact k
/-! ### is_value, is_within -/
def spIsValue : Sp := fun vs H Q _ => ∃ d : Option Int, vs = [vO d] ∧ (∀ i, d = some i → 0 ≤ i) ∧ Q (.bl true) H
theorem sc_is_value : FnScope ["value"] ["value"] (defScope s_is_value) := ⟨rfl, rfl, rfl, by decide +kernel, rfl, by decide +kernel, by decide +kernel⟩
theorem ok_is_value (T : Txt K mg w C CH) : Cal P w K mg base 2 "is_value" spIsValue [] := by
  refine cal_of T.d_is_value sc_is_value (fun _ _ _ _ _ _ us hl => match us, hl with | [_], _ => rfl) (fun vs H Q E h => ?_) (fun f cdv A outer s H vs Q E hr h => ?_)
  · obtain ⟨i, rfl, _⟩ := h
    rfl
  · obtain ⟨d, rfl, h0, k⟩ := h
    refine ⟨_, pss_one (ps_ret (pe_or (pe_cmpR op_isN (pv 0) pe_non (nomark _)) (pe_one (pe_and (C8.pe_c (ok_is_integer T) hr (by decide) rfl (pa_cons (pv 0) pa_nil)) (pe_one (pe_cmpR op_ge (pv 0) pe_int (nomark _))))))), ?_⟩
    cases d with
    | none => exact ⟨_, rfl, rfl, _, rfl, iteT k⟩
    | some i =>
      refine ⟨_, rfl, rfl, _, rfl, iteF ?_⟩
      refine ⟨_, rfl, i, rfl, _, rfl, iteT ?_⟩
      refine ⟨_, rfl, i, 0, rfl, rfl, ?_⟩
      exact qb (Q := Q) (decide_eq_true (h0 i rfl)) k
/-- whether a value is within -/
def inO (g : Int) : Option Int → Bool
  | none => true
  | some i => decide (0 ≤ i ∧ i ≤ g)
def spIsWithin : Sp := fun vs H Q _ => ∃ (d : Option Int) (g : Int), vs = [vO d, .int g] ∧ Q (.bl (inO g d)) H
theorem sc_is_within : FnScope ["value", "greatest"] ["value", "greatest"] (defScope s_is_within) := ⟨rfl, rfl, rfl, by decide +kernel, rfl, by decide +kernel, by decide +kernel⟩
theorem ok_is_within (T : Txt K mg w C CH) : Cal P w K mg base 3 "is_within" spIsWithin [] := by
  refine cal_of T.d_is_within sc_is_within (fun _ _ _ _ _ _ us hl => match us, hl with | [_, _], _ => rfl) (fun vs H Q E h => ?_) (fun f cdv A outer s H vs Q E hr h => ?_)
  · obtain ⟨d, g, rfl, _⟩ := h
    rfl
  · obtain ⟨d, g, rfl, k⟩ := h
    refine ⟨_, pss_one (ps_ret (pe_or (pe_cmpR op_isN (pv 0) pe_non (nomark _)) (pe_one (C8.pe_c (ok_is_between T) hr (by decide) rfl (pa_cons (pv 0) (pa_cons pe_int (pa_cons (pv 1) pa_nil))))))), ?_⟩
    cases d with
    | none => exact ⟨_, rfl, rfl, _, rfl, iteT k⟩
    | some i =>
      refine ⟨_, rfl, rfl, _, rfl, iteF ?_⟩
      exact ⟨_, rfl, _, rfl, i, 0, g, rfl, k⟩
end
end Ed
/-! Editionrows: comprehensions that map; is_name. -/
namespace Ed
open PySem PySem.Spec PyProof.Rows L2

theorem _root_.L2.Same.upd {H H' : Hp} {D : Addr} {o : HO} (s : Same H H') (h : H D = none) : Same H (L2.upd H' D o) := fun a u e => by
  rw [upd_ne (ne_of_none e h)]
  exact s a u e
theorem _root_.L2.Same.new {H : Hp} {D : Addr} {o : HO} (h : H D = none) : Same H (L2.upd H D o) := Same.upd (Same.refl H) h
theorem _root_.L2.Same.seqT {K : PySem.W.Frag} {H H' : Hp} {a : Addr} {xs : List V} (e : Same H H') (h : SqT K H a xs) : SqT K H' a xs := h.ext e
theorem small_lt {n : Nat} (h : n < 100000) : n < sizeLine := Nat.lt_of_lt_of_le h (by decide)
theorem small_le {n : Nat} (h : n ≤ 100000) : n ≤ sizeLine := Nat.le_trans h (by decide)
/-- tuples and instances -/
def Imm : HO → Prop
  | .tup _ => True
  | .ins _ _ _ => True
  | _ => False
/-- tuples and instances stand as they stood -/
def Keep (H H' : Hp) : Prop := ∀ b o, Imm o → H b = some o → H' b = some o
theorem Keep.refl (H : Hp) : Keep H H := fun _ _ _ e => e
theorem Keep.trans {H H1 H2 : Hp} (a : Keep H H1) (b : Keep H1 H2) : Keep H H2 := fun c o i e => b c o i (a c o i e)
theorem _root_.L2.Same.keep {H H' : Hp} (s : Same H H') : Keep H H' := fun b o _ e => s b o e
theorem Keep.lst {H : Hp} {D : Addr} {xs ys : List V} (h : H D = some (.lst xs)) : Keep H (L2.upd H D (.lst ys)) := fun b o i e => by
  have n : b ≠ D := fun q => by
    rw [q, h] at e
    cases e
    exact i
  rw [upd_ne n]
  exact e
theorem Keep.dk {H : Hp} {D : Addr} {xs ys : List (Key × V)} (h : H D = some (.dK xs)) : Keep H (L2.upd H D (.dK ys)) := fun b o i e => by
  have n : b ≠ D := fun q => by
    rw [q, h] at e
    cases e
    exact i
  rw [upd_ne n]
  exact e
theorem Keep.new {H : Hp} {D : Addr} {o : HO} (h : H D = none) : Keep H (L2.upd H D o) := (Same.new h).keep

/-! ### [e for x in ..]: each turn makes an item of which R tells -/
theorem lc_map {J : It} {n : Nat} {G : Hp → Prop} {Y : Nat → Hp → V → Hp → Prop} (w : Walk J n G Y) {g : TG} {te : TE} {vs : List Nat} {σ : L2.St} {H1 : Hp} {D : Addr} {Qd : Hp → Prop} (R : Nat → V → Hp → Prop)
    (mono : ∀ i v H H', Keep H H' → R i v H → R i v H') (hn : n ≤ 50000) (hD : H1 D = none) (hG : ∀ H, Same H1 H → G H)
    (hs : ∀ i x H H' (Kt : V → Hp → Prop), i < n → Same H1 H → Y i H x H' → (∀ y H4, Same H H4 → R i y H4 → Kt y H4) → g x (wipe σ vs) H' fun σ2 H2 => wipe σ2 vs = wipe σ vs ∧ te σ2 H2 Kt)
    (hd : ∀ H acc, Same H1 H → H D = some (.lst acc) → acc.length = n → (∀ j v, acc[j]? = some v → R j v H) → Qd H) :
    ∃ W : Nat → Nat → Hp → Prop, (∃ m, W 0 m (upd H1 D (.lst []))) ∧ ∀ i m H, W i m H →
      (J.stop i H ∧ Qd H) ∨ (J.go i H ∧ ∃ Nx : Hp → Prop, (∀ H', Nx H' → ∃ m', m' < m ∧ W (i + 1) m' H') ∧ ∀ x H', J.yld i H x H' → g x (wipe σ vs) H' fun σ2 H2 => wipe σ2 vs = wipe σ vs ∧ tYes σ2 H2 fun b H3 =>
        if b = true then te σ2 H3 fun y H4 => ∃ acc, H4 D = some (.lst acc) ∧ acc.length < sizeLine ∧ Nx (upd H4 D (.lst (acc ++ [y]))) else Nx H3) := by
  refine lc_it (tt := tYes) w (fun i H => Same H1 H ∧ ∃ acc, H D = some (.lst acc) ∧ acc.length = i ∧ ∀ j v, acc[j]? = some v → R j v H) ⟨Same.new hD, [], upd_same, rfl, fun j v e => by simp at e⟩ (fun i H _ p => hG H p.1) (fun i x H H' hi p y => ?_) (fun H p => ?_)
  · obtain ⟨s1, acc, h1, h2, h3⟩ := p
    refine hs i x H H' _ hi s1 y fun z H4 s4 r4 => ⟨acc, s4 _ _ h1, small_lt (by omega), Same.upd (s1.trans s4) hD, acc ++ [z], upd_same, by rw [List.length_append, List.length_singleton, h2], fun j v e => ?_⟩
    have kp : Keep H4 (upd H4 D (.lst (acc ++ [z]))) := Keep.lst (s4 _ _ h1)
    by_cases hj : j < acc.length
    · rw [List.getElem?_append_left hj] at e
      exact mono j v _ _ (s4.keep.trans kp) (h3 j v e)
    · have ej : j = acc.length := by
        have := (List.getElem?_eq_some_iff.mp e).1
        rw [List.length_append, List.length_singleton] at this
        omega
      rw [ej, List.getElem?_append_right (Nat.le_refl _), Nat.sub_self] at e
      have ev : z = v := Option.some.inj e
      rw [ej, h2, ← ev]
      exact mono i z _ _ kp r4
  · obtain ⟨s1, acc, h1, h2, h3⟩ := p
    exact hd H acc s1 h1 h2 h3
theorem ext_acc {acc ys : List V} (hl : acc.length = ys.length) (h : ∀ (j : Nat) (v : V), acc[j]? = some v → ys[j]? = some v) : acc = ys := by
  refine List.ext_getElem? fun j => ?_
  cases e : acc[j]? with
  | some v => rw [h j v e]
  | none =>
    have := List.getElem?_eq_none_iff.mp e
    exact (List.getElem?_eq_none_iff.mpr (by omega)).symm
/-- the items are known values: ys -/
theorem lc_vals {J : It} {G : Hp → Prop} {Y : Nat → Hp → V → Hp → Prop} {ys : List V} (w : Walk J ys.length G Y) {g : TG} {te : TE} {vs : List Nat} {σ : L2.St} {H1 : Hp} {D : Addr} {Qd : Hp → Prop}
    (hn : ys.length ≤ 50000) (hD : H1 D = none) (hG : ∀ H, Same H1 H → G H)
    (hs : ∀ i x H H' y (Kt : V → Hp → Prop), ys[i]? = some y → Same H1 H → Y i H x H' → (∀ H4, Same H H4 → Kt y H4) → g x (wipe σ vs) H' fun σ2 H2 => wipe σ2 vs = wipe σ vs ∧ te σ2 H2 Kt)
    (hd : ∀ H, Same H1 H → H D = some (.lst ys) → Qd H) :
    ∃ W : Nat → Nat → Hp → Prop, (∃ m, W 0 m (upd H1 D (.lst []))) ∧ ∀ i m H, W i m H →
      (J.stop i H ∧ Qd H) ∨ (J.go i H ∧ ∃ Nx : Hp → Prop, (∀ H', Nx H' → ∃ m', m' < m ∧ W (i + 1) m' H') ∧ ∀ x H', J.yld i H x H' → g x (wipe σ vs) H' fun σ2 H2 => wipe σ2 vs = wipe σ vs ∧ tYes σ2 H2 fun b H3 =>
        if b = true then te σ2 H3 fun y H4 => ∃ acc, H4 D = some (.lst acc) ∧ acc.length < sizeLine ∧ Nx (upd H4 D (.lst (acc ++ [y]))) else Nx H3) :=
  lc_map w (fun i v _ => ys[i]? = some v) (fun _ _ _ _ _ h => h) hn hD hG
    (fun i x H H' Kt hi s1 y k => hs i x H H' ys[i] Kt (List.getElem?_eq_getElem hi) s1 y fun H4 s4 => k _ H4 s4 (List.getElem?_eq_getElem hi))
    (fun H acc s1 h1 h2 h3 => hd H s1 (by rw [h1, ext_acc h2 h3]))

section
variable {P : Program} {w : World} {K : PySem.W.Frag} {mg : Str → Option Value} {base : Heap} {C CH : Addr}
/-! ### is_name -/
def spIsName : Sp := fun vs H Q _ => ∃ n : Str, vs = [.str n] ∧ NameOk n ∧ ∀ H', Same H H' → Q (.bl true) H'
theorem sc_is_name : FnScope ["value", "sign"] ["value"] (defScope s_is_name) := ⟨rfl, rfl, rfl, by decide +kernel, rfl, by decide +kernel, by decide +kernel⟩
theorem ok_is_name (T : Txt K mg w C CH) : Cal P w K mg base 1 "is_name" spIsName [] := by
  refine cal_of T.d_is_name sc_is_name (fun _ _ _ _ _ _ us hl => match us, hl with | [_], _ => rfl) (fun vs H Q E h => ?_) (fun f cdv A outer s H vs Q E hr h => ?_)
  · obtain ⟨i, rfl, _⟩ := h
    rfl
  · obtain ⟨n, rfl, hn, k⟩ := h
    refine ⟨_, pss_one (ps_ret (pe_and (pe_callB call_isTyp rfl T.b_isinstance boot_isinstance (pa_cons (pv 0) (pa_cons (pTy T.b_str boot_str) pa_nil)))
      (pe_and (pe_chain op_le op_le pe_int (pe_callB call_len_str rfl T.b_len PySem.boot_len (pa_cons (pv 0) pa_nil)) (pGi T.c_MOST_LETTERS))
      (pe_one (pe_callB (cr_all rfl) rfl T.b_all boot_all (pa_cons (pe_lc (own := [("sign", 1)]) (g := gName 1) (tt := tYes) rfl sc_is_name.nd (pi_str (pv 0)) (blkOk_by (own := [("sign", 1)]) (N := ["value", "sign"]) (sc := defScope s_is_name) (by decide +kernel))
        (fun _ _ _ _ _ => pg_name (i := 1) sc_is_name.nd rfl (Or.inl rfl)) (fun _ _ _ _ _ => pts_nil) (fun _ _ _ _ _ => pe_cmpR op_in_sign (pv 1) (pGs T.c_LETTERS) (by rfl))) pa_nil)))))), ?_⟩
    have hl := hn.len
    refine ⟨_, rfl, _, _, _, _, rfl, ty_s n, kit_ss, _, rfl, iteT ?_⟩
    refine ⟨_, rfl, n, rfl, small_le (by omega), _, _, rfl, rfl, _, rfl, ?_⟩
    rw [if_pos (decide_eq_true (by omega))]
    refine ⟨_, _, rfl, rfl, _, rfl, ?_⟩
    rw [if_pos (decide_eq_true (by omega))]
    refine ⟨_, rfl, n, rfl, fun D hD => ?_⟩
    have en : (List.replicate n.length (V.bl true)).length = n.cps.size := List.length_replicate
    refine lc_vals (ys := List.replicate n.length (V.bl true)) (by rw [en]; exact walk_str) (by rw [en]; have : n.cps.size = n.length := rfl; omega) hD (fun _ _ => trivial) (fun i x H2 H' y Kt hy s1 e kt => ?_) (fun H2 s1 hD2 => ?_)
    · obtain ⟨rfl, c, hc, rfl⟩ := e
      refine ⟨rfl, ?_⟩
      refine ⟨_, rfl, c, _, rfl, rfl, ?_⟩
      have hm : c ∈ TL.tl n := by
        rw [← Array.getElem?_toList] at hc
        exact List.mem_of_getElem? hc
      have ey : y = .bl true := (List.mem_replicate.mp (List.mem_of_getElem? hy)).2
      rw [ey] at kt
      exact qb (Q := Kt) (decide_eq_true (hn.let_ c hm)) (kt _ (Same.refl _))
    · refine ⟨_, List.replicate n.length true, rfl, SqL.of (by rw [hD2, List.map_replicate]), ?_⟩
      exact qb (Q := Q) (by simp) (k H2 s1)
end
end Ed
/-! Editionrows: columns.py. -/
namespace Ed
open PySem PySem.Spec PyProof.Rows L2

/-! ### a column's attributes -/
def cf (c : Col) (n : Int) : List (Str × V) := putF "number" (.int n) (putF "default" (vO c.dflt) (putF "greatest" (.int c.most) (putF "name" (.str c.name) [])))
theorem cf_name (c : Col) (n : Int) : (cf c n).lookup ("name" : Str) = some (.str c.name) := by
  unfold cf
  rw [lookup_putF, if_neg (by decide +kernel), lookup_putF, if_neg (by decide +kernel), lookup_putF, if_neg (by decide +kernel), lookup_putF, if_pos rfl]
theorem cf_most (c : Col) (n : Int) : (cf c n).lookup ("greatest" : Str) = some (.int c.most) := by
  unfold cf
  rw [lookup_putF, if_neg (by decide +kernel), lookup_putF, if_neg (by decide +kernel), lookup_putF, if_pos rfl]
theorem cf_dflt (c : Col) (n : Int) : (cf c n).lookup ("default" : Str) = some (vO c.dflt) := by
  unfold cf
  rw [lookup_putF, if_neg (by decide +kernel), lookup_putF, if_pos rfl]
theorem cf_num (c : Col) (n : Int) : (cf c n).lookup ("number" : Str) = some (.int n) := by
  unfold cf
  rw [lookup_putF, if_pos rfl]
theorem cf_no (c : Col) (n : Int) {m : Str} (h : m ∉ [("name" : Str), "greatest", "default", "number"]) : (cf c n).lookup m = none := by
  simp only [List.mem_cons, List.not_mem_nil, or_false, not_or] at h
  obtain ⟨h1, h2, h3, h4⟩ := h
  unfold cf
  rw [lookup_putF, if_neg h4, lookup_putF, if_neg h3, lookup_putF, if_neg h2, lookup_putF, if_neg h1]
  rfl
theorem lt_putF {f : Str} {v : V} {fs : List (Str × V)} {n : Nat} (h : fs.length ≤ n) : (putF f v fs).length ≤ n + 1 := by
  have := length_putF f v fs
  omega
theorem lt_1000 {n k : Nat} (h : n ≤ k) (hk : k < 1000 := by decide) : n < 1000 := Nat.lt_of_le_of_lt h hk
theorem nil_len : ([] : List (Str × V)).length ≤ 0 := Nat.le_refl 0
/-- a Column stands at v -/
def ColAt (C : Addr) (H : Hp) (v : V) (c : Col) (n : Int) : Prop := ∃ a dx, v = .ref a ∧ H a = some (.ins C dx (cf c n))
theorem ColAt.keep {C : Addr} {H H' : Hp} {v : V} {c : Col} {n : Int} (h : ColAt C H v c n) (k : Keep H H') : ColAt C H' v c n := by
  obtain ⟨a, dx, e, h⟩ := h
  exact ⟨a, dx, e, k _ _ trivial h⟩
structure ColV (c : Col) (n : Int) : Prop where
  name : NameOk c.name
  most : 1 ≤ c.most ∧ c.most ≤ 99
  dflt : inO c.most c.dflt = true
  num : 0 ≤ n
theorem inO_of {m : Int} {d : Option Int} (h : ValO m d) : inO m d = true := by
  cases d with
  | none => rfl
  | some i => exact decide_eq_true (h i rfl)
theorem ColOk.v {m : Int} {c : Col} (h : ColOk m c) (hm : m ≤ 99) {n : Int} (hn : 0 ≤ n) : ColV c n := ⟨h.name.ok, by have := h.most; omega, inO_of h.dflt, hn⟩

section
variable {P : Program} {w : World} {K : PySem.W.Frag} {mg : Str → Option Value} {base : Heap} {C CH : Addr}
/-! ### Column.__init__ -/
def spColInit (C : Addr) : Sp := fun vs H Q _ => ∃ (p dx : Addr) (c : Col) (n : Int), vs = [.ref p, .str c.name, .int c.most, vO c.dflt, .int n] ∧ H p = some (.ins C dx []) ∧ ColV c n ∧
  ∀ H', (∀ b o, b ≠ p → H b = some o → H' b = some o) → H' p = some (.ins C dx (cf c n)) → Q .non H'
theorem sc_Column_init : FnScope ["self", "name", "greatest", "default", "number"] ["self", "name", "greatest", "default", "number"] (defScope s_Column_init) := ⟨rfl, rfl, rfl, by decide +kernel, rfl, by decide +kernel, by decide +kernel⟩
theorem ok_Column_init (T : Txt K mg w C CH) {f : Addr} {fd : FuncData} (F : FunD K "__init__" "Column.__init__" (defArgs s_Column_init) (defBody s_Column_init) (defScope s_Column_init) [.non] [("number", .int 0)] f fd) :
    FnOk P w K mg base CX0 4 f fd ["self", "name", "greatest", "default", "number"] (spColInit C) := by
  refine fnd_of F sc_Column_init (fun vs H Q E h => ?_) (fun cdv A outer s H vs Q E hr h => ?_)
  · obtain ⟨p, dx, c, n, rfl, _⟩ := h
    rfl
  · obtain ⟨p, dx, c, n, rfl, hp, hv, k⟩ := h
    refine ⟨_, pss_cons (ps_if (pt_not (pt_val (C8.pe_c (ok_is_name T) hr (by decide) rfl (pa_cons (pv 1) pa_nil)))) (pss_one ps_never) pss_nil)
      (pss_cons (ps_if (pt_not (pt_val (C8.pe_c (ok_is_between T) hr (by decide) rfl (pa_cons (pv 2) (pa_cons pe_int (pa_cons (pGi T.c_MOST_GREATEST) pa_nil)))))) (pss_one ps_never) pss_nil)
      (pss_cons (ps_if (pt_not (pt_val (C8.pe_c (ok_is_within T) hr (by decide) rfl (pa_cons (pv 3) (pa_cons (pv 2) pa_nil))))) (pss_one ps_never) pss_nil)
      (pss_cons (ps_if (PW.pt (pw_or (pt_not (pt_val (C8.pe_c (ok_is_integer T) hr (by decide) rfl (pa_cons (pv 4) pa_nil)))) (pw_or1 (pt_cmpR op_lt (pv 4) pe_int (nomark _))))) (pss_one ps_never) pss_nil)
      (pss_cons (ps_fld (pv 0) (pv 1) rfl) (pss_cons (ps_fld (pv 0) (pv 2) rfl) (pss_cons (ps_fld (pv 0) (pv 3) rfl) (pss_one (ps_fld (pv 0) (pv 4) rfl)))))))), ?_⟩
    have hm := hv.most
    refine ⟨_, rfl, _, rfl, hv.name, fun H1 s1 => ⟨_, rfl, iteF ?_⟩⟩
    refine ⟨_, rfl, _, 1, 99, rfl, _, rfl, ?_⟩
    rw [decide_eq_true (by omega)]
    refine iteF ?_
    refine ⟨_, rfl, _, rfl, c.dflt, c.most, rfl, _, rfl, ?_⟩
    rw [hv.dflt]
    refine iteF ?_
    refine ⟨_, rfl, n, rfl, _, rfl, iteF ?_⟩
    refine ⟨_, rfl, n, 0, rfl, rfl, _, rfl, ?_⟩
    rw [decide_eq_false (by have := hv.num; omega)]
    refine iteF ?_
    refine ⟨_, rfl, _, rfl, p, C, dx, _, rfl, s1 _ _ hp, T.cl_Column, T.n_Column_name, (by show 0 < 1000; decide), ?_⟩
    refine ⟨_, rfl, _, rfl, p, C, dx, _, rfl, upd_same, T.cl_Column, T.n_Column_greatest, (by show 1 < 1000; decide), ?_⟩
    refine ⟨_, rfl, _, rfl, p, C, dx, _, rfl, upd_same, T.cl_Column, T.n_Column_default, lt_1000 (lt_putF (lt_putF nil_len)), ?_⟩
    refine ⟨_, rfl, _, rfl, p, C, dx, _, rfl, upd_same, T.cl_Column, T.n_Column_number, lt_1000 (lt_putF (lt_putF (lt_putF nil_len))), ?_⟩
    refine k _ (fun b o hb e => ?_) upd_same
    rw [upd_ne hb, upd_ne hb, upd_ne hb, upd_ne hb]
    exact s1 _ _ e
/-! ### the class, made by three values and a keyword, or by three values alone -/
theorem ColAt.eq_fs {C : Addr} {H : Hp} {a : Addr} {c : Col} {n : Int} (h : ColAt C H (.ref a) c n) : ∃ dx, H a = some (.ins C dx (cf c n)) := by
  obtain ⟨b, dx, e, h⟩ := h
  cases e
  exact ⟨dx, h⟩
theorem col_made {H : Hp} {x dx : Addr} {c : Col} {n : Int} {R : Addr → Hp → Prop} (hv : ColV c n) (nx : H x = none) (nd : H dx = none) (k : ∀ H3 a, Same H H3 → H a = none → ColAt C H3 (.ref a) c n → R a H3) :
    spColInit C [.ref x, .str c.name, .int c.most, vO c.dflt, .int n] (upd (upd H dx (.own x)) x (.ins C dx [])) (fun v H2 => v = .non ∧ R x H2) E0 :=
  ⟨x, dx, c, n, rfl, upd_same, hv, fun H' hk h' => ⟨rfl, k H' x (fun b o e => hk b o (ne_of_none e nx) (by rw [upd_ne (ne_of_none e nx), upd_ne (ne_of_none e nd)]; exact e)) nx ⟨x, dx, rfl, h'⟩⟩⟩
theorem colK_fin {H : Hp} {c : Col} {n : Int} {R : Addr → Hp → Prop} (hv : ColV c n) (k : ∀ H3 a, Same H H3 → H a = none → ColAt C H3 (.ref a) c n → R a H3) :
    [V.str c.name, .int c.most, vO c.dflt].length = 3 ∧ [V.int n].length = 1 ∧ ∀ x dx, H x = none → H dx = none → dx ≠ x →
      spColInit C ((fun vs zs : List V => vs ++ zs) (.ref x :: [V.str c.name, .int c.most, vO c.dflt]) [V.int n]) (upd (upd H dx (.own x)) x (.ins C dx [])) (fun v H2 => v = .non ∧ R x H2) E0 :=
  ⟨rfl, rfl, fun x dx nx nd _ => col_made hv nx nd k⟩
theorem pe_colK {X : Cx} (T : Txt X.K X.mg X.w C CH) {j : Nat} (hr : Room j X.A) (hj : 5 ≤ j) {p pos : Pos} {e : Expr} {es : List Expr} {kws : List Keyword} {t tk : TA} (ha : PA X (e :: es) t) (hkw : PK X kws tk)
    (hg : Gl X "Column" := by rfl) (hall : (backToKw pos (keywordEach kws X.env)).all (·.1.isSome) = true := by rfl) (hks : (backToKw pos (keywordEach kws X.env)).filterMap (·.1) = [("number" : Str)] := by rfl)
    (he : starEach (e :: es) X.env = (false, eval e X.env) :: starEach es X.env := by rfl) (hpl : ((backTo pos (starEach (e :: es) X.env)).any (·.1) || (backToKw pos (keywordEach kws X.env)).any (·.1.isNone)) = false := by rfl) :
    PE X (.Call (.Name "Column" p) (e :: es) kws pos) (tMakeK C 3 1 (spColInit C) (fun vs zs => vs ++ zs) E0 t tk) := by
  obtain ⟨f, fd, M, F⟩ := T.m_Column_init
  have G := ok_Column_init (P := X.prog) (base := X.base) T F
  obtain ⟨its, mv, hb⟩ := F.kbinds (ps := ["self", "name", "greatest", "default", "number"]) 4 [("number" : Str)] [] (fun us its mv ws => us ++ (its.drop 1 ++ (mv ++ ws))) (List.cons_ne_nil _ _) (List.cons_ne_nil _ _) (fun q h => by cases h)
    (fun r1 r2 r3 r4 => r1.append ((r2.drop 1).append (r3.append r4))) (fun T0 D doc pm an cdv ct us its mv ws h1 h2 h3 h4 => match us, its, mv, ws, h1, h2, h3, h4 with | [_, _, _, _], [_], [], [_], _, _, _, _ => ⟨_, rfl, rfl⟩)
  exact pe_makeK (n := 3) (ks := [("number" : Str)]) M G (hr.mono hj) hg T.g_Column hb pass0 ha hkw hall hks (by decide) he hpl
theorem pe_col3 {X : Cx} (T : Txt X.K X.mg X.w C CH) {j : Nat} (hr : Room j X.A) (hj : 5 ≤ j) {p pos : Pos} {e : Expr} {es : List Expr} {t : TA} (ha : PA X (e :: es) t)
    (hg : Gl X "Column" := by rfl) (he : starEach (e :: es) X.env = (false, eval e X.env) :: starEach es X.env := by rfl) (hpl : (backTo pos (starEach es X.env)).any (·.1) = false := by rfl) :
    PE X (.Call (.Name "Column" p) (e :: es) [] pos) (tMake C (spColInit C) [.int 0] E0 t) := by
  obtain ⟨f, fd, M, F⟩ := T.m_Column_init
  have G := ok_Column_init (P := X.prog) (base := X.base) T F
  obtain ⟨ds, hd, hb⟩ := F.binds (ps := ["self", "name", "greatest", "default", "number"]) 4 1 (List.cons_ne_nil _ _) rfl (fun T0 D doc pm an cdv ct us its ks h1 h2 h3 => match us, its, ks, h1, h2, h3 with | [_, _, _, _], [_], [_], _, _, _ => ⟨_, rfl, ⟨_, _, _, _, _, _, rfl, rfl, rfl⟩⟩) (List.cons_ne_nil _ _)
  exact pe_make M G (hr.mono hj) hg T.g_Column hb hd pass0 ha (by decide) he hpl
theorem col3_fin {H : Hp} {c : Col} {R : Addr → Hp → Prop} (hv : ColV c 0) (k : ∀ H3 a, Same H H3 → H a = none → ColAt C H3 (.ref a) c 0 → R a H3) :
    ∀ x dx, H x = none → H dx = none → dx ≠ x → spColInit C (.ref x :: ([V.str c.name, .int c.most, vO c.dflt] ++ [V.int 0])) (upd (upd H dx (.own x)) x (.ins C dx [])) (fun v H2 => v = .non ∧ R x H2) E0 :=
  fun x dx nx nd _ => col_made hv nx nd k

/-! ### Column.__eq__ of equal ones -/
def eqCol (C : Addr) : Addr → Addr → Hp → Prop := fun a b H => ∃ c n, ColAt C H (.ref a) c n ∧ ColAt C H (.ref b) c n
theorem sc_Column_eq : FnScope ["self", "other"] ["self", "other"] (defScope s_Column_eq) := ⟨rfl, rfl, rfl, by decide +kernel, rfl, by decide +kernel, by decide +kernel⟩
theorem ok_Column_eq (T : Txt K mg w C CH) {f : Addr} {fd : FuncData} (F : FunD K "__eq__" "Column.__eq__" (defArgs s_Column_eq) (defBody s_Column_eq) (defScope s_Column_eq) [] [] f fd) :
    FnOk P w K mg base CX0 1 f fd ["self", "other"] (spEq (eqCol C)) := by
  refine fnd_of F sc_Column_eq (fun vs H Q E h => ?_) (fun cdv A outer s H vs Q E hr h => ?_)
  · obtain ⟨a, b, rfl, _⟩ := h
    rfl
  · obtain ⟨a, b, rfl, ⟨c, n, h1, h2⟩, k⟩ := h
    obtain ⟨dx, h1⟩ := h1.eq_fs
    obtain ⟨dy, h2⟩ := h2.eq_fs
    refine ⟨_, pss_cons (ps_if (PW.pt (pw_or (pt_not (pt_val (pe_callB (C8.call_isC T.is_Column) rfl T.b_isinstance boot_isinstance (pa_cons (pv 1) (pa_cons (pe_glob (v := .ref C) rfl T.g_Column rfl) pa_nil)))))
        (pw_or (pt_cmpR op_ne (pe_fld (pv 0) rfl) (pe_fld (pv 1) rfl) (nomark _)) (pw_or1 (pt_cmpR op_ne (pe_fld (pv 0) rfl) (pe_fld (pv 1) rfl) (nomark _)))))) (pss_one (ps_ret pe_bl)) pss_nil)
      (pss_one (ps_ret (pe_and (pe_cmpR op_eq (pe_fld (pv 0) rfl) (pe_fld (pv 1) rfl) (nomark _)) (pe_one (pe_cmpR op_eq (pe_fld (pv 0) rfl) (pe_fld (pv 1) rfl) (nomark _)))))), ?_⟩
    refine ⟨_, rfl, b, dy, _, rfl, h2, _, rfl, iteF ?_⟩
    refine ⟨_, rfl, a, C, dx, _, _, rfl, h1, T.cl_Column, T.n_Column_name, cf_name _ _, _, rfl, b, C, dy, _, _, rfl, h2, T.cl_Column, T.n_Column_name, cf_name _ _, rfl, _, rfl, ?_⟩
    rw [decide_eq_true rfl]
    refine iteF ?_
    refine ⟨_, rfl, a, C, dx, _, _, rfl, h1, T.cl_Column, T.n_Column_greatest, cf_most _ _, _, rfl, b, C, dy, _, _, rfl, h2, T.cl_Column, T.n_Column_greatest, cf_most _ _, rfl, _, rfl, ?_⟩
    rw [decide_eq_true rfl]
    refine iteF ?_
    refine ⟨_, rfl, a, C, dx, _, _, rfl, h1, T.cl_Column, T.n_Column_default, cf_dflt _ _, _, rfl, b, C, dy, _, _, rfl, h2, T.cl_Column, T.n_Column_default, cf_dflt _ _, (by cases c.dflt <;> rfl), _, rfl, ?_⟩
    rw [decide_eq_true rfl]
    refine iteT ?_
    refine ⟨_, rfl, a, C, dx, _, _, rfl, h1, T.cl_Column, T.n_Column_number, cf_num _ _, _, rfl, b, C, dy, _, _, rfl, h2, T.cl_Column, T.n_Column_number, cf_num _ _, rfl, ?_⟩
    exact qb (Q := Q) (decide_eq_true rfl) (k H fun _ _ e => e)

/-! ### Column.changed -/
inductive Part : Str → V → Col → Int → Col → Int → Prop where
  | name (s : Str) (c : Col) (n : Int) : Part "name" (.str s) c n ⟨s, c.most, c.dflt⟩ n
  | dflt (d : Option Int) (c : Col) (n : Int) : Part "default" (vO d) c n ⟨c.name, c.most, d⟩ n
  | num (m : Int) (c : Col) (n : Int) : Part "number" (.int m) c n c m
def spChanged (C : Addr) : Sp := fun vs H Q _ => ∃ (a : Addr) (c c' : Col) (n n' : Int) (part : Str) (v : V), vs = [.ref a, .str part, v] ∧ ColAt C H (.ref a) c n ∧ Part part v c n c' n' ∧ ColV c' n' ∧
  ∀ H' b, Same H H' → H b = none → ColAt C H' (.ref b) c' n' → Q (.ref b) H'
theorem sc_Column_changed : FnScope ["self", "part", "value", "name", "greatest", "default", "number"] ["self", "part", "value"] (defScope s_Column_changed) := ⟨rfl, rfl, rfl, by decide +kernel, rfl, by decide +kernel, by decide +kernel⟩
theorem ok_Column_changed (T : Txt K mg w C CH) {f : Addr} {fd : FuncData} (F : FunD K "changed" "Column.changed" (defArgs s_Column_changed) (defBody s_Column_changed) (defScope s_Column_changed) [] [] f fd) :
    FnOk P w K mg base CX0 6 f fd ["self", "part", "value"] (spChanged C) := by
  refine fnd_of F sc_Column_changed (fun vs H Q E h => ?_) (fun cdv A outer s H vs Q E hr h => ?_)
  · obtain ⟨a, c, c', n, n', part, v, rfl, _⟩ := h
    rfl
  · obtain ⟨a, c, c', n, n', part, v, rfl, h1, hp, hv, k⟩ := h
    obtain ⟨dx, h1⟩ := h1.eq_fs
    obtain ⟨tp, gp, hT⟩ := T.t_COLUMN_PARTS
    refine ⟨_, pss_cons (ps_if (PW.pt (pw_or (pt_not (pt_val (pe_callB call_isTyp rfl T.b_isinstance boot_isinstance (pa_cons (pv 1) (pa_cons (pTy T.b_str boot_str) pa_nil)))))
        (pw_or1 (pt_cmpR op_notIn_seq (pv 1) (pe_glob (v := .ref tp) rfl gp rfl) (by rfl))))) (pss_one ps_never) pss_nil)
      (pss_cons (ps_set (i := 3) sc_Column_changed.nd rfl (Or.inl rfl) (pe_ifExp (pt_cmpR op_eq (pv 1) pe_str (nomark _)) (pv 2) (pe_fld (pv 0) rfl)))
      (pss_cons (ps_set (i := 4) sc_Column_changed.nd rfl (Or.inl rfl) (pe_ifExp (pt_cmpR op_eq (pv 1) pe_str (nomark _)) (pv 2) (pe_fld (pv 0) rfl)))
      (pss_cons (ps_set (i := 5) sc_Column_changed.nd rfl (Or.inl rfl) (pe_ifExp (pt_cmpR op_eq (pv 1) pe_str (nomark _)) (pv 2) (pe_fld (pv 0) rfl)))
      (pss_cons (ps_set (i := 6) sc_Column_changed.nd rfl (Or.inl rfl) (pe_ifExp (pt_cmpR op_eq (pv 1) pe_str (nomark _)) (pv 2) (pe_fld (pv 0) rfl)))
      (pss_one (ps_ret (pe_colK T hr (by decide) (pa_cons (pv 3) (pa_cons (pv 4) (pa_cons (pv 5) pa_nil))) (pk_cons (pv 6) pk_nil)))))))), ?_⟩
    have hin : inV (.str part) [V.str "name", .str "greatest", .str "default", .str "number"] = true := by
      cases hp <;> decide +kernel
    refine ⟨_, rfl, _, _, _, _, rfl, ty_s part, kit_ss, _, rfl, iteF ?_⟩
    refine ⟨_, rfl, tp, _, rfl, .inr (hT H), rfl, (by decide +kernel), _, rfl, ?_⟩
    rw [hin]
    refine iteF ?_
    have fin : ∀ (x1 x2 x3 x4 : V), x1 = .str c'.name → x2 = .int c'.most → x3 = vO c'.dflt → x4 = .int n' → tMakeK C 3 1 (spColInit C) (fun vs zs => vs ++ zs) E0 (tCons (tVar 3) (tCons (tVar 4) (tCons (tVar 5) tNil))) (tCons (tVar 6) tNil) [some (.ref a), some (.str part), some v, some x1, some x2, some x3, some x4] H Q := fun x1 x2 x3 x4 e1 e2 e3 e4 => by
      subst e1 e2 e3 e4
      exact ⟨_, rfl, _, rfl, _, rfl, _, rfl, colK_fin hv fun H3 b s3 hb hc => k H3 b s3 hb hc⟩
    cases hp with
    | name s =>
      refine ⟨_, rfl, rfl, _, rfl, ?_⟩
      rw [decide_eq_true rfl]
      refine iteT ⟨_, rfl, ?_⟩
      refine ⟨_, rfl, rfl, _, rfl, ?_⟩
      rw [decide_eq_false (by decide +kernel)]
      refine iteF ⟨_, rfl, a, C, dx, _, _, rfl, h1, T.cl_Column, T.n_Column_greatest, cf_most _ _, ?_⟩
      refine ⟨_, rfl, rfl, _, rfl, ?_⟩
      rw [decide_eq_false (by decide +kernel)]
      refine iteF ⟨_, rfl, a, C, dx, _, _, rfl, h1, T.cl_Column, T.n_Column_default, cf_dflt _ _, ?_⟩
      refine ⟨_, rfl, rfl, _, rfl, ?_⟩
      rw [decide_eq_false (by decide +kernel)]
      refine iteF ⟨_, rfl, a, C, dx, _, _, rfl, h1, T.cl_Column, T.n_Column_number, cf_num _ _, ?_⟩
      exact fin _ _ _ _ rfl rfl rfl rfl
    | dflt d =>
      refine ⟨_, rfl, rfl, _, rfl, ?_⟩
      rw [decide_eq_false (by decide +kernel)]
      refine iteF ⟨_, rfl, a, C, dx, _, _, rfl, h1, T.cl_Column, T.n_Column_name, cf_name _ _, ?_⟩
      refine ⟨_, rfl, rfl, _, rfl, ?_⟩
      rw [decide_eq_false (by decide +kernel)]
      refine iteF ⟨_, rfl, a, C, dx, _, _, rfl, h1, T.cl_Column, T.n_Column_greatest, cf_most _ _, ?_⟩
      refine ⟨_, rfl, rfl, _, rfl, ?_⟩
      rw [decide_eq_true rfl]
      refine iteT ⟨_, rfl, ?_⟩
      refine ⟨_, rfl, rfl, _, rfl, ?_⟩
      rw [decide_eq_false (by decide +kernel)]
      refine iteF ⟨_, rfl, a, C, dx, _, _, rfl, h1, T.cl_Column, T.n_Column_number, cf_num _ _, ?_⟩
      exact fin _ _ _ _ rfl rfl rfl rfl
    | num m =>
      refine ⟨_, rfl, rfl, _, rfl, ?_⟩
      rw [decide_eq_false (by decide +kernel)]
      refine iteF ⟨_, rfl, a, C, dx, _, _, rfl, h1, T.cl_Column, T.n_Column_name, cf_name _ _, ?_⟩
      refine ⟨_, rfl, rfl, _, rfl, ?_⟩
      rw [decide_eq_false (by decide +kernel)]
      refine iteF ⟨_, rfl, a, C, dx, _, _, rfl, h1, T.cl_Column, T.n_Column_greatest, cf_most _ _, ?_⟩
      refine ⟨_, rfl, rfl, _, rfl, ?_⟩
      rw [decide_eq_false (by decide +kernel)]
      refine iteF ⟨_, rfl, a, C, dx, _, _, rfl, h1, T.cl_Column, T.n_Column_default, cf_dflt _ _, ?_⟩
      refine ⟨_, rfl, rfl, _, rfl, ?_⟩
      rw [decide_eq_true rfl]
      refine iteT ⟨_, rfl, ?_⟩
      exact fin _ _ _ _ rfl rfl rfl rfl
/-- column.changed(..) as a method -/
theorem met_changed (T : Txt K mg w C CH) : C8.Met P w K mg base 6 C "changed" (spChanged C) [] := by
  obtain ⟨f, fd, M, F⟩ := T.m_Column_changed
  exact ⟨f, fd, _, [], T.cl_Column, M, ok_Column_changed T F, F.bindsN fun _ _ _ _ _ _ us hl => match us, hl with | [_, _, _], _ => rfl, .nil⟩
end
end Ed
/-! Editionrows: changes.py, first part: is_change, named, why_not. -/
namespace Ed
open PySem PySem.Spec PyProof.Rows L2

/-! ### lists of things -/
structure ItemsAt {α : Type} (R : α → V → Hp → Prop) (xs : List α) (vs : List V) (H : Hp) : Prop where
  len : vs.length = xs.length
  each : ∀ (i : Nat) (x : α) (v : V), xs[i]? = some x → vs[i]? = some v → R x v H
section
variable {α : Type} {R : α → V → Hp → Prop} {xs : List α} {vs : List V} {H H' : Hp}
theorem ItemsAt.keep (mono : ∀ x v H H', Keep H H' → R x v H → R x v H') (h : ItemsAt R xs vs H) (k : Keep H H') : ItemsAt R xs vs H' := ⟨h.len, fun i x v h1 h2 => mono x v H H' k (h.each i x v h1 h2)⟩
theorem ItemsAt.nil : ItemsAt R [] [] H := ⟨rfl, fun i x v h _ => by simp at h⟩
theorem ItemsAt.snoc {x : α} {v : V} (h : ItemsAt R xs vs H) (r : R x v H) : ItemsAt R (xs ++ [x]) (vs ++ [v]) H := by
  refine ⟨by rw [List.length_append, List.length_append, h.len, List.length_singleton, List.length_singleton], fun i y u h1 h2 => ?_⟩
  by_cases hi : i < xs.length
  · rw [List.getElem?_append_left hi] at h1
    rw [List.getElem?_append_left (by rw [h.len]; exact hi)] at h2
    exact h.each i y u h1 h2
  · have hi2 : i = xs.length := by
      have := (List.getElem?_eq_some_iff.mp h1).1
      rw [List.length_append, List.length_singleton] at this
      omega
    subst hi2
    rw [List.getElem?_append_right (Nat.le_refl _), Nat.sub_self] at h1
    rw [List.getElem?_append_right (Nat.le_of_eq h.len), h.len, Nat.sub_self] at h2
    have e1 : x = y := Option.some.inj h1
    have e2 : v = u := Option.some.inj h2
    rw [← e1, ← e2]
    exact r
theorem ItemsAt.get (h : ItemsAt R xs vs H) {i : Nat} {v : V} (e : vs[i]? = some v) : ∃ x, xs[i]? = some x ∧ R x v H := by
  have hi : i < xs.length := by
    rw [← h.len]
    exact (List.getElem?_eq_some_iff.mp e).1
  exact ⟨xs[i], List.getElem?_eq_getElem hi, h.each i _ v (List.getElem?_eq_getElem hi) e⟩
theorem ItemsAt.get' (h : ItemsAt R xs vs H) {i : Nat} {x : α} (e : xs[i]? = some x) : ∃ v, vs[i]? = some v ∧ R x v H := by
  have hi : i < vs.length := by
    rw [h.len]
    exact (List.getElem?_eq_some_iff.mp e).1
  exact ⟨vs[i], List.getElem?_eq_getElem hi, h.each i x _ e (List.getElem?_eq_getElem hi)⟩
theorem ItemsAt.app {ys : List α} {us : List V} (h : ItemsAt R xs vs H) (g : ItemsAt R ys us H) : ItemsAt R (xs ++ ys) (vs ++ us) H := by
  refine ⟨by rw [List.length_append, List.length_append, h.len, g.len], fun i y u h1 h2 => ?_⟩
  by_cases hi : i < xs.length
  · rw [List.getElem?_append_left hi] at h1
    rw [List.getElem?_append_left (by rw [h.len]; exact hi)] at h2
    exact h.each i y u h1 h2
  · rw [List.getElem?_append_right (by omega)] at h1
    rw [List.getElem?_append_right (by rw [h.len]; omega), h.len] at h2
    exact g.each _ y u h1 h2
theorem ItemsAt.of_acc {n : Nat} {f : Nat → V → Hp → Prop} (hl : vs.length = xs.length) (h : ∀ (j : Nat) v, vs[j]? = some v → f j v H) (hf : ∀ (j : Nat) x v, xs[j]? = some x → f j v H → R x v H) : ItemsAt R xs vs H :=
  ⟨hl, fun i x v h1 h2 => hf i x v h1 (h i v h2)⟩
end
/-- a column, its number left open -/
def ColN (C : Addr) (c : Col) (v : V) (H : Hp) : Prop := ∃ n, 0 ≤ n ∧ ColAt C H v c n
theorem ColN.keep {C : Addr} (c : Col) (v : V) (H H' : Hp) (k : Keep H H') (h : ColN C c v H) : ColN C c v H' := by
  obtain ⟨n, hn, h⟩ := h
  exact ⟨n, hn, h.keep k⟩
/-! ### a change's items -/
def Chg.kind : Chg → Str
  | .add _ _ _ => "add"
  | .drop _ => "drop"
  | .rename _ _ => "rename"
  | .dfl _ _ => "default"
  | .grt _ _ _ => "greatest"
  | .fill _ _ => "fill"
def Chg.size : Chg → Int
  | .add _ _ _ => 4
  | .drop _ => 2
  | .rename _ _ => 3
  | .dfl _ _ => 3
  | .grt _ _ _ => 4
  | .fill _ _ => 3
theorem at0 (c : Chg) : atI c.vals 0 = some (.str c.kind) := by cases c <;> rfl
theorem at1 (c : Chg) : atI c.vals 1 = some (.str c.name) := by cases c <;> rfl
theorem vals_size (c : Chg) : (c.vals.length : Int) = c.size := by cases c <;> rfl

theorem ifF {b : Bool} {A B : Prop} (h : b = false) (q : B) : if b = true then A else B := by
  rw [h]
  exact iteF q
theorem ifT {b : Bool} {A B : Prop} (h : b = true) (q : A) : if b = true then A else B := by
  rw [h]
  exact iteT q
theorem ksn {a b : Str} (h : ¬ a = b) : ¬ V.str a = V.str b := fun e => h (V.str.inj e)
section
variable {P : Program} {w : World} {K : PySem.W.Frag} {mg : Str → Option Value} {base : Heap} {C CH : Addr}
theorem sizes_at (T : Txt K mg w C CH) : ∃ d es n, mg "SIZES" = some (.ref d) ∧ KDict K w d es n ∧ ∀ c : Chg, ∃ u, PySem.W.nsIn K d c.kind = some (some u) ∧ RelV (.int c.size) u := by
  obtain ⟨d, es, n, h1, h2, h3⟩ := T.t_SIZES
  refine ⟨d, es, n, h1, h2, fun c => ?_⟩
  cases c
  · exact h3 (("add" : Str), 4) (by simp)
  · exact h3 (("drop" : Str), 2) (by simp)
  · exact h3 (("rename" : Str), 3) (by simp)
  · exact h3 (("default" : Str), 3) (by simp)
  · exact h3 (("greatest" : Str), 4) (by simp)
  · exact h3 (("fill" : Str), 3) (by simp)
/-! ### is_change -/
def spIsChange : Sp := fun vs H Q _ => ∃ (t : Addr) (c : Chg) (m : Int), vs = [.ref t] ∧ H t = some (.tup c.vals) ∧ ChgOk m c ∧ m ≤ 99 ∧ ∀ H', Same H H' → Q (.bl true) H'
theorem sc_is_change : FnScope ["value"] ["value"] (defScope s_is_change) := ⟨rfl, rfl, rfl, by decide +kernel, rfl, by decide +kernel, by decide +kernel⟩
theorem ok_is_change (T : Txt K mg w C CH) : Cal P w K mg base 3 "is_change" spIsChange [] := by
  refine cal_of T.d_is_change sc_is_change (fun _ _ _ _ _ _ us hl => match us, hl with | [_], _ => rfl) (fun vs H Q E h => ?_) (fun f cdv A outer s H vs Q E hr h => ?_)
  · obtain ⟨i, _, _, rfl, _⟩ := h
    rfl
  · obtain ⟨t, c, m, rfl, ht, hc, hm, k⟩ := h
    obtain ⟨d, es, n, gd, D, hs⟩ := sizes_at T
    obtain ⟨wt, gw, hW⟩ := T.t_WAYS
    obtain ⟨u, hu, ru⟩ := hs c
    have hd : KDct K w d c.kind (.int c.size) := ⟨es, n, u, D.at_, D.lit, hu, ru⟩
    refine ⟨_, pss_cons (ps_if (PW.pt (pw_or (pt_not (pt_val (pe_callB call_isTyp rfl T.b_isinstance boot_isinstance (pa_cons (pv 0) (pa_cons (pTy T.b_tuple boot_tuple) pa_nil)))))
        (pw_or (pt_cmpR op_lt (pe_callB call_len_seq rfl T.b_len PySem.boot_len (pa_cons (pv 0) pa_nil)) pe_int (nomark _))
        (pw_or1 (pt_not (pt_val (pe_callB call_isTyp rfl T.b_isinstance boot_isinstance (pa_cons (pe_ix ix_tup (pv 0) pe_int (fun _ _ => rfl)) (pa_cons (pTy T.b_str boot_str) pa_nil))))))))) (pss_one (ps_ret pe_bl)) pss_nil)
      (pss_cons (ps_if (PW.pt (pw_or (pt_cmpR (op_notIn_kd D) (pe_ix ix_tup (pv 0) pe_int (fun _ _ => rfl)) (pe_glob (v := .ref d) rfl gd rfl) (by rfl))
        (pw_or (pt_cmpR op_ne (pe_callB call_len_seq rfl T.b_len PySem.boot_len (pa_cons (pv 0) pa_nil)) (pe_ix ix_kdict (pe_glob (v := .ref d) rfl gd rfl) (pe_ix ix_tup (pv 0) pe_int (fun _ _ => rfl)) (fun _ _ => rfl)) (nomark _))
        (pw_or1 (pt_not (pt_val (C8.pe_c (ok_is_name T) hr (by decide) rfl (pa_cons (pe_ix ix_tup (pv 0) pe_int (fun _ _ => rfl)) pa_nil)))))))) (pss_one (ps_ret pe_bl)) pss_nil)
      (pss_cons (ps_if (pt_cmpR op_eq (pe_ix ix_tup (pv 0) pe_int (fun _ _ => rfl)) pe_str (nomark _)) (pss_one (ps_ret (pe_and (C8.pe_c (ok_is_between T) hr (by decide) rfl (pa_cons (pe_ix ix_tup (pv 0) pe_int (fun _ _ => rfl)) (pa_cons pe_int (pa_cons (pGi T.c_MOST_GREATEST) pa_nil))))
          (pe_one (C8.pe_c (ok_is_value T) hr (by decide) rfl (pa_cons (pe_ix ix_tup (pv 0) pe_int (fun _ _ => rfl)) pa_nil)))))) pss_nil)
      (pss_cons (ps_if (pt_cmpR op_eq (pe_ix ix_tup (pv 0) pe_int (fun _ _ => rfl)) pe_str (nomark _)) (pss_one (ps_ret (C8.pe_c (ok_is_name T) hr (by decide) rfl (pa_cons (pe_ix ix_tup (pv 0) pe_int (fun _ _ => rfl)) pa_nil)))) pss_nil)
      (pss_cons (ps_if (pt_cmpR op_eq (pe_ix ix_tup (pv 0) pe_int (fun _ _ => rfl)) pe_str (nomark _)) (pss_one (ps_ret (C8.pe_c (ok_is_value T) hr (by decide) rfl (pa_cons (pe_ix ix_tup (pv 0) pe_int (fun _ _ => rfl)) pa_nil)))) pss_nil)
      (pss_cons (ps_if (pt_cmpR op_eq (pe_ix ix_tup (pv 0) pe_int (fun _ _ => rfl)) pe_str (nomark _)) (pss_one (ps_ret (pe_and (C8.pe_c (ok_is_between T) hr (by decide) rfl (pa_cons (pe_ix ix_tup (pv 0) pe_int (fun _ _ => rfl)) (pa_cons pe_int (pa_cons (pGi T.c_MOST_GREATEST) pa_nil))))
          (pe_and (pe_callB call_isTyp rfl T.b_isinstance boot_isinstance (pa_cons (pe_ix ix_tup (pv 0) pe_int (fun _ _ => rfl)) (pa_cons (pTy T.b_str boot_str) pa_nil))) (pe_one (pe_cmpR op_in_seq (pe_ix ix_tup (pv 0) pe_int (fun _ _ => rfl)) (pe_glob (v := .ref wt) rfl gw rfl) (by rfl))))))) pss_nil)
      (pss_one (ps_ret (pe_or (pe_cmpR op_eq (pe_ix ix_tup (pv 0) pe_int (fun _ _ => rfl)) pe_str (nomark _))
          (pe_one (pe_and (C8.pe_c (ok_is_integer T) hr (by decide) rfl (pa_cons (pe_ix ix_tup (pv 0) pe_int (fun _ _ => rfl)) pa_nil)) (pe_one (pe_cmpR op_ge (pe_ix ix_tup (pv 0) pe_int (fun _ _ => rfl)) pe_int (nomark _)))))))))))))
      , ?_⟩
    have hS := SqT.of (K := K) ht
    refine ⟨_, rfl, _, _, _, _, rfl, .base (.tup ht), kit_tt, _, rfl, iteF ?_⟩
    refine ⟨_, rfl, t, _, rfl, .inr hS, _, _, rfl, rfl, _, rfl, ?_⟩
    refine ifF (decide_eq_false (by rw [vals_size]; cases c <;> (simp only [Chg.size]; decide))) ?_
    refine ⟨_, rfl, t, _, _, _, rfl, rfl, hS, at0 c, _, _, _, _, rfl, ty_s _, kit_ss, _, rfl, iteF ?_⟩
    refine ⟨_, rfl, t, _, _, _, rfl, rfl, hS, at0 c, _, _, rfl, rfl, hu, _, rfl, iteF ?_⟩
    refine ⟨_, rfl, t, _, rfl, .inr hS, _, rfl, t, _, _, _, rfl, rfl, hS, at0 c, d, _, _, rfl, rfl, hd, rfl, _, rfl, ?_⟩
    refine ifF (by rw [decide_eq_true (by rw [vals_size])]; rfl) ?_
    refine ⟨_, rfl, t, _, _, _, rfl, rfl, hS, at1 c, _, rfl, hc.nm.ok, fun H1 s1 => ⟨_, rfl, iteF ?_⟩⟩
    have hS1 : SqT K H1 t c.vals := s1.seqT hS
    -- add
    refine ⟨_, rfl, t, _, _, _, rfl, rfl, hS1, at0 c, rfl, _, rfl, ?_⟩
    cases c with
    | add nm g dd =>
      refine ifT (decide_eq_true rfl) ?_
      obtain ⟨h1, h2, h3⟩ := hc
      refine ⟨_, rfl, t, _, _, .int g, rfl, rfl, hS1, rfl, _, _, _, rfl, _, rfl, ?_⟩
      refine ifT (decide_eq_true (by omega)) ?_
      exact ⟨_, rfl, t, _, _, vO dd, rfl, rfl, hS1, rfl, dd, rfl, fun i e => (h3 i e).1, k _ s1⟩
    | drop nm =>
      refine ifF (decide_eq_false (ksn (a := "drop") (by decide +kernel))) ?_
      refine ⟨_, rfl, t, _, _, _, rfl, rfl, hS1, at0 _, rfl, _, rfl, ?_⟩
      refine ifF (decide_eq_false (ksn (a := "drop") (by decide +kernel))) ?_
      refine ⟨_, rfl, t, _, _, _, rfl, rfl, hS1, at0 _, rfl, _, rfl, ?_⟩
      refine ifF (decide_eq_false (ksn (a := "drop") (by decide +kernel))) ?_
      refine ⟨_, rfl, t, _, _, _, rfl, rfl, hS1, at0 _, rfl, _, rfl, ?_⟩
      refine ifF (decide_eq_false (ksn (a := "drop") (by decide +kernel))) ?_
      refine ⟨_, rfl, t, _, _, _, rfl, rfl, hS1, at0 _, rfl, _, rfl, ?_⟩
      exact ifT (decide_eq_true rfl) (k _ s1)
    | rename nm n2 =>
      refine ifF (decide_eq_false (ksn (a := "rename") (by decide +kernel))) ?_
      refine ⟨_, rfl, t, _, _, _, rfl, rfl, hS1, at0 _, rfl, _, rfl, ?_⟩
      refine ifT (decide_eq_true rfl) ?_
      exact ⟨_, rfl, t, _, _, .str n2, rfl, rfl, hS1, rfl, _, rfl, hc.2.ok, fun H2 s2 => k _ (s1.trans s2)⟩
    | dfl nm dd =>
      refine ifF (decide_eq_false (ksn (a := "default") (by decide +kernel))) ?_
      refine ⟨_, rfl, t, _, _, _, rfl, rfl, hS1, at0 _, rfl, _, rfl, ?_⟩
      refine ifF (decide_eq_false (ksn (a := "default") (by decide +kernel))) ?_
      refine ⟨_, rfl, t, _, _, _, rfl, rfl, hS1, at0 _, rfl, _, rfl, ?_⟩
      refine ifT (decide_eq_true rfl) ?_
      exact ⟨_, rfl, t, _, _, vO dd, rfl, rfl, hS1, rfl, dd, rfl, fun i e => (hc.2 i e).1, k _ s1⟩
    | grt nm g ww =>
      refine ifF (decide_eq_false (ksn (a := "greatest") (by decide +kernel))) ?_
      refine ⟨_, rfl, t, _, _, _, rfl, rfl, hS1, at0 _, rfl, _, rfl, ?_⟩
      refine ifF (decide_eq_false (ksn (a := "greatest") (by decide +kernel))) ?_
      refine ⟨_, rfl, t, _, _, _, rfl, rfl, hS1, at0 _, rfl, _, rfl, ?_⟩
      refine ifF (decide_eq_false (ksn (a := "greatest") (by decide +kernel))) ?_
      refine ⟨_, rfl, t, _, _, _, rfl, rfl, hS1, at0 _, rfl, _, rfl, ?_⟩
      refine ifT (decide_eq_true rfl) ?_
      obtain ⟨h1, h2, h3⟩ := hc
      refine ⟨_, rfl, t, _, _, .int g, rfl, rfl, hS1, rfl, _, _, _, rfl, _, rfl, ?_⟩
      refine ifT (decide_eq_true (by omega)) ?_
      refine ⟨_, rfl, t, _, _, .str ww, rfl, rfl, hS1, rfl, _, _, _, _, rfl, ty_s _, kit_ss, _, rfl, iteT ?_⟩
      refine ⟨_, rfl, t, _, _, .str ww, rfl, rfl, hS1, rfl, wt, _, rfl, .inr (hW H1), rfl, (by decide +kernel), ?_⟩
      exact qb (Q := Q) (by rcases h3 with rfl | rfl | rfl <;> decide +kernel) (k _ s1)
    | fill nm i =>
      refine ifF (decide_eq_false (ksn (a := "fill") (by decide +kernel))) ?_
      refine ⟨_, rfl, t, _, _, _, rfl, rfl, hS1, at0 _, rfl, _, rfl, ?_⟩
      refine ifF (decide_eq_false (ksn (a := "fill") (by decide +kernel))) ?_
      refine ⟨_, rfl, t, _, _, _, rfl, rfl, hS1, at0 _, rfl, _, rfl, ?_⟩
      refine ifF (decide_eq_false (ksn (a := "fill") (by decide +kernel))) ?_
      refine ⟨_, rfl, t, _, _, _, rfl, rfl, hS1, at0 _, rfl, _, rfl, ?_⟩
      refine ifF (decide_eq_false (ksn (a := "fill") (by decide +kernel))) ?_
      refine ⟨_, rfl, t, _, _, _, rfl, rfl, hS1, at0 _, rfl, _, rfl, ?_⟩
      refine ifF (decide_eq_false (ksn (a := "fill") (by decide +kernel))) ?_
      refine ⟨_, rfl, t, _, _, .int i, rfl, rfl, hS1, rfl, _, rfl, _, rfl, iteT ?_⟩
      refine ⟨_, rfl, t, _, _, .int i, rfl, rfl, hS1, rfl, _, _, rfl, rfl, ?_⟩
      exact qb (Q := Q) (decide_eq_true hc.2.1) (k _ s1)
end
end Ed
/-! Editionrows: changes.py, second part: named, why_not_add, why_not. -/
namespace Ed
open PySem PySem.Spec PyProof.Rows L2
section
variable {P : Program} {w : World} {K : PySem.W.Frag} {mg : Str → Option Value} {base : Heap} {C CH : Addr}
/-! ### named -/
def spNamed (C : Addr) : Sp := fun vs H Q _ => ∃ (l : Addr) (ls : List V) (cols : List Col) (n : Str), vs = [.ref l, .str n] ∧ H l = some (.lst ls) ∧ ItemsAt (ColN C) cols ls H ∧
  (¬ Has cols n → Q .non H) ∧ ∀ c v, c ∈ cols → c.name = n → ColN C c v H → Q v H
theorem sc_named : FnScope ["columns", "name", "column"] ["columns", "name"] (defScope s_named) := ⟨rfl, rfl, rfl, by decide +kernel, rfl, by decide +kernel, by decide +kernel⟩
theorem ok_named (T : Txt K mg w C CH) : Cal P w K mg base 1 "named" (spNamed C) [] := by
  refine cal_of T.d_named sc_named (fun _ _ _ _ _ _ us hl => match us, hl with | [_, _], _ => rfl) (fun vs H Q E h => ?_) (fun f cdv A outer s H vs Q E hr h => ?_)
  · obtain ⟨_, _, _, _, rfl, _⟩ := h
    rfl
  · obtain ⟨l, ls, cols, n, rfl, hl, it, k1, k2⟩ := h
    refine ⟨_, pss_cons (ps_for PassesOwn.never rfl (pi_list (pv 0)) (pg_name (i := 2) sc_named.nd rfl (Or.inl rfl))
        (pss_one (ps_if (pt_cmpR op_eq (pe_fld (pv 2) rfl) (pv 1) (nomark _)) (pss_one (ps_ret (pv 2))) pss_nil)))
      (pss_one (ps_ret pe_non)), ?_⟩
    refine ⟨_, rfl, l, rfl, ⟨_, SqL.of hl⟩, for_list (K := K) (a := l) (xs := ls) (fun i σ H' => H' = H ∧ (∃ v, σ = [some (.ref l), some (.str n), v]) ∧ ∀ (j : Nat) c, j < i → cols[j]? = some c → ¬ c.name = n)
      ⟨rfl, ⟨_, rfl⟩, fun j c hj => absurd hj (Nat.not_lt_zero _)⟩ (fun i σ H' _ p => by rw [p.1]; exact SqL.of hl) ?_ ?_⟩
    · rintro i x σ H' hi ⟨rfl, ⟨v, rfl⟩, hno⟩
      obtain ⟨c, hc, m, hm, a, dx, rfl, ha⟩ := it.get hi
      refine ⟨_, rfl, a, C, dx, _, _, rfl, ha, T.cl_Column, T.n_Column_name, cf_name _ _, _, rfl, rfl, _, rfl, ?_⟩
      by_cases e : c.name = n
      · refine ifT (decide_eq_true (by rw [e])) ⟨_, rfl, ?_⟩
        exact k2 c _ (List.mem_of_getElem? hc) e ⟨m, hm, a, dx, rfl, ha⟩
      · refine ifF (decide_eq_false (ksn e)) ?_
        refine ⟨rfl, ⟨_, rfl⟩, fun j d hj hd => ?_⟩
        by_cases hji : j < i
        · exact hno j d hji hd
        · have ej : j = i := by omega
          rw [ej, hc] at hd
          rw [← Option.some.inj hd]
          exact e
    · rintro σ H' ⟨rfl, _, hno⟩
      refine k1 fun ⟨c, hc, e⟩ => ?_
      obtain ⟨j, hj, ej⟩ := List.mem_iff_getElem.mp hc
      exact hno j c (by rw [it.len]; exact hj) (by rw [List.getElem?_eq_getElem hj, ej]) e

/-! ### what a change to columns is given -/
structure CC (C : Addr) (H : Hp) (l t : Addr) (ls : List V) (cols : List Col) (c : Chg) (m : Int) : Prop where
  hl : H l = some (.lst ls)
  it : ItemsAt (ColN C) cols ls H
  ht : H t = some (.tup c.vals)
  ok : ChgOk m c
  hm : m ≤ 99
  gd : Good cols c
theorem CC.same {H H' : Hp} {l t : Addr} {ls : List V} {cols : List Col} {c : Chg} {m : Int} (h : CC C H l t ls cols c m) (s : Same H H') : CC C H' l t ls cols c m :=
  ⟨s _ _ h.hl, h.it.keep ColN.keep s.keep, s _ _ h.ht, h.ok, h.hm, h.gd⟩
/-! ### why_not_add -/
def spWhyNotAdd (C : Addr) : Sp := fun vs H Q _ => ∃ (l t : Addr) (ls : List V) (cols : List Col) (n : Str) (g : Int) (d : Option Int) (m : Int), vs = [.ref l, .ref t] ∧ CC C H l t ls cols (.add n g d) m ∧ Q .non H
theorem sc_why_not_add : FnScope ["columns", "change"] ["columns", "change"] (defScope s_why_not_add) := ⟨rfl, rfl, rfl, by decide +kernel, rfl, by decide +kernel, by decide +kernel⟩
theorem ok_why_not_add (T : Txt K mg w C CH) : Cal P w K mg base 4 "why_not_add" (spWhyNotAdd C) [] := by
  refine cal_of T.d_why_not_add sc_why_not_add (fun _ _ _ _ _ _ us hl => match us, hl with | [_, _], _ => rfl) (fun vs H Q E h => ?_) (fun f cdv A outer s H vs Q E hr h => ?_)
  · obtain ⟨_, _, _, _, _, _, _, _, rfl, _⟩ := h
    rfl
  · obtain ⟨l, t, ls, cols, n, g, d, m, rfl, cc, k⟩ := h
    have hS := SqT.of (K := K) cc.ht
    obtain ⟨g1, g2, g3⟩ := cc.gd
    refine ⟨_, pss_cons (ps_if (pt_cmpR op_notN (C8.pe_c (ok_named T) hr (by decide) rfl (pa_cons (pv 0) (pa_cons (pe_ix ix_tup (pv 1) pe_int (fun _ _ => rfl)) pa_nil))) pe_non (nomark _)) (pss_one (ps_ret pe_str)) pss_nil)
      (pss_cons (ps_if (pt_cmpR op_ge (pe_callB call_len_seq rfl T.b_len PySem.boot_len (pa_cons (pv 0) pa_nil)) (pGi T.c_MOST_COLUMNS) (nomark _)) (pss_one (ps_ret pe_str)) pss_nil)
      (pss_one (ps_ret (pe_ifExp (pt_val (C8.pe_c (ok_is_within T) hr (by decide) rfl (pa_cons (pe_ix ix_tup (pv 1) pe_int (fun _ _ => rfl)) (pa_cons (pe_ix ix_tup (pv 1) pe_int (fun _ _ => rfl)) pa_nil)))) pe_non pe_str)))), ?_⟩
    refine ⟨_, rfl, _, rfl, t, _, _, .str n, rfl, rfl, hS, rfl, l, ls, cols, n, rfl, cc.hl, cc.it, fun _ => ?_, fun c v hc e _ => absurd ⟨c, hc, e⟩ g1⟩
    refine ⟨rfl, _, rfl, ifF rfl ?_⟩
    refine ⟨_, rfl, l, ls, rfl, .inl (SqL.of cc.hl), _, _, rfl, rfl, _, rfl, ifF (decide_eq_false (by have := cc.it.len; omega)) ?_⟩
    refine ⟨_, rfl, t, _, _, vO d, rfl, rfl, hS, rfl, _, rfl, t, _, _, .int g, rfl, rfl, hS, rfl, d, g, rfl, _, rfl, ifT (inO_of g3) ?_⟩
    exact k
/-! ### why_not -/
def spWhyNot (C : Addr) : Sp := fun vs H Q _ => ∃ (l t : Addr) (ls : List V) (cols : List Col) (c : Chg) (m : Int), vs = [.ref l, .ref t] ∧ CC C H l t ls cols c m ∧ ∀ H', Same H H' → Q .non H'
theorem sc_why_not : FnScope ["columns", "change", "column"] ["columns", "change"] (defScope s_why_not) := ⟨rfl, rfl, rfl, by decide +kernel, rfl, by decide +kernel, by decide +kernel⟩
theorem ok_why_not (T : Txt K mg w C CH) : Cal P w K mg base 5 "why_not" (spWhyNot C) [] := by
  refine cal_of T.d_why_not sc_why_not (fun _ _ _ _ _ _ us hl => match us, hl with | [_, _], _ => rfl) (fun vs H Q E h => ?_) (fun f cdv A outer s H vs Q E hr h => ?_)
  · obtain ⟨_, _, _, _, _, _, rfl, _⟩ := h
    rfl
  · obtain ⟨l, t, ls, cols, c, m, rfl, cc, k⟩ := h
    refine ⟨_, pss_cons (ps_if (pt_not (pt_val (C8.pe_c (ok_is_change T) hr (by decide) rfl (pa_cons (pv 1) pa_nil)))) (pss_one ps_never) pss_nil)
      (pss_cons (ps_if (pt_cmpR op_eq (pe_ix ix_tup (pv 1) pe_int (fun _ _ => rfl)) pe_str (nomark _)) (pss_one (ps_ret (C8.pe_c (ok_why_not_add T) hr (by decide) rfl (pa_cons (pv 0) (pa_cons (pv 1) pa_nil))))) pss_nil)
      (pss_cons (ps_set (i := 2) sc_why_not.nd rfl (Or.inl rfl) (C8.pe_c (ok_named T) hr (by decide) rfl (pa_cons (pv 0) (pa_cons (pe_ix ix_tup (pv 1) pe_int (fun _ _ => rfl)) pa_nil))))
      (pss_cons (ps_if (pt_cmpR op_isN (pv 2) pe_non (nomark _)) (pss_one (ps_ret pe_str)) pss_nil)
      (pss_cons (ps_if (pt_cmpR op_eq (pe_ix ix_tup (pv 1) pe_int (fun _ _ => rfl)) pe_str (nomark _)) (pss_one (ps_ret (pe_ifExp (pt_cmpR op_isN (C8.pe_c (ok_named T) hr (by decide) rfl (pa_cons (pv 0) (pa_cons (pe_ix ix_tup (pv 1) pe_int (fun _ _ => rfl)) pa_nil))) pe_non (nomark _)) pe_non pe_str))) pss_nil)
      (pss_cons (ps_if (pt_cmpR op_eq (pe_ix ix_tup (pv 1) pe_int (fun _ _ => rfl)) pe_str (nomark _)) (pss_one (ps_ret (pe_ifExp (pt_cmpR op_eq (pe_callB call_len_seq rfl T.b_len PySem.boot_len (pa_cons (pv 0) pa_nil)) pe_int (nomark _)) pe_str pe_non))) pss_nil)
      (pss_cons (ps_if (pt_cmpR op_in_seq (pe_ix ix_tup (pv 1) pe_int (fun _ _ => rfl)) (pe_tup (pa_cons pe_str (pa_cons pe_str pa_nil))) (by rfl)) (pss_one (ps_ret (pe_ifExp (pt_val (C8.pe_c (ok_is_within T) hr (by decide) rfl (pa_cons (pe_ix ix_tup (pv 1) pe_int (fun _ _ => rfl)) (pa_cons (pe_fld (pv 2) rfl) pa_nil)))) pe_non pe_str))) pss_nil)
      (pss_cons (ps_if (PW.pt (pw_and (pt_cmpR op_eq (pe_ix ix_tup (pv 1) pe_int (fun _ _ => rfl)) pe_str (nomark _)) (pw_and (pt_cmpR op_notN (pe_fld (pv 2) rfl) pe_non (nomark _)) (pw_and1 (pt_cmpR op_lt (pe_ix ix_tup (pv 1) pe_int (fun _ _ => rfl)) (pe_fld (pv 2) rfl) (nomark _)))))) (pss_one (ps_ret pe_str)) pss_nil)
      (pss_one (ps_ret pe_non))))))))), ?_⟩
    refine ⟨_, rfl, t, c, m, rfl, cc.ht, cc.ok, cc.hm, fun H1 s1 => ⟨_, rfl, iteF ?_⟩⟩
    have c1 := cc.same s1
    have hS := SqT.of (K := K) c1.ht
    have hL := SqL.of (K := K) c1.hl
    have it := c1.it
    have gd := c1.gd
    have hok := c1.ok
    refine ⟨_, rfl, t, _, _, _, rfl, rfl, hS, at0 c, rfl, _, rfl, ?_⟩
    cases c with
    | add nm g dd =>
      refine ifT (decide_eq_true rfl) ?_
      exact ⟨_, rfl, _, rfl, l, t, ls, cols, nm, g, dd, m, rfl, c1, k _ s1⟩
    | drop nm =>
      refine ifF (decide_eq_false (ksn (a := "drop") (by decide +kernel))) ?_
      refine ⟨_, rfl, _, rfl, t, _, _, _, rfl, rfl, hS, at1 _, l, ls, cols, nm, rfl, c1.hl, it, fun hno => absurd gd.1 hno, fun c' v hc' e ⟨n', hn', a, dx, ev, ha⟩ => ?_⟩
      subst ev
      refine ⟨_, rfl, rfl, _, rfl, ifF rfl ?_⟩
      refine ⟨_, rfl, t, _, _, _, rfl, rfl, hS, at0 _, rfl, _, rfl, ifF (decide_eq_false (ksn (a := "drop") (by decide +kernel))) ?_⟩
      refine ⟨_, rfl, t, _, _, _, rfl, rfl, hS, at0 _, rfl, _, rfl, ifT (decide_eq_true rfl) ?_⟩
      refine ⟨_, rfl, l, ls, rfl, .inl hL, rfl, _, rfl, ifF (decide_eq_false (by
        intro z
        have z2 := V.int.inj z
        have := it.len
        exact gd.2 (by omega))) ?_⟩
      exact k _ s1
    | rename nm n2 =>
      refine ifF (decide_eq_false (ksn (a := "rename") (by decide +kernel))) ?_
      refine ⟨_, rfl, _, rfl, t, _, _, _, rfl, rfl, hS, at1 _, l, ls, cols, nm, rfl, c1.hl, it, fun hno => absurd gd.1 hno, fun c' v hc' e ⟨n', hn', a, dx, ev, ha⟩ => ?_⟩
      subst ev
      refine ⟨_, rfl, rfl, _, rfl, ifF rfl ?_⟩
      refine ⟨_, rfl, t, _, _, _, rfl, rfl, hS, at0 _, rfl, _, rfl, ifT (decide_eq_true rfl) ?_⟩
      refine ⟨_, rfl, _, rfl, t, _, _, .str n2, rfl, rfl, hS, rfl, l, ls, cols, n2, rfl, c1.hl, it, fun _ => ?_, fun c2 v2 hc2 e2 _ => absurd ⟨c2, hc2, e2⟩ gd.2⟩
      refine ⟨rfl, _, rfl, ifT rfl ?_⟩
      exact k _ s1
    | dfl nm dd =>
      refine ifF (decide_eq_false (ksn (a := "default") (by decide +kernel))) ?_
      refine ⟨_, rfl, _, rfl, t, _, _, _, rfl, rfl, hS, at1 _, l, ls, cols, nm, rfl, c1.hl, it, fun hno => absurd gd.1 hno, fun c' v hc' e ⟨n', hn', a, dx, ev, ha⟩ => ?_⟩
      subst ev
      refine ⟨_, rfl, rfl, _, rfl, ifF rfl ?_⟩
      refine ⟨_, rfl, t, _, _, _, rfl, rfl, hS, at0 _, rfl, _, rfl, ifF (decide_eq_false (ksn (a := "default") (by decide +kernel))) ?_⟩
      refine ⟨_, rfl, t, _, _, _, rfl, rfl, hS, at0 _, rfl, _, rfl, ifF (decide_eq_false (ksn (a := "default") (by decide +kernel))) ?_⟩
      refine ⟨_, rfl, t, _, _, _, rfl, rfl, hS, at0 _, (by show 2 ≤ sizeLine; decide), fun p hp => ?_⟩
      have s2 : Same H1 (upd H1 p (.tup [.str "default", .str "fill"])) := Same.new hp
      refine ⟨p, _, rfl, .inr (SqT.of upd_same), rfl, (by decide +kernel), _, rfl, ifT (show inV (V.str "default") [V.str "default", V.str "fill"] = true from by decide +kernel) ?_⟩
      have hS2 := s2.seqT hS
      refine ⟨_, rfl, t, _, _, vO dd, rfl, rfl, hS2, rfl, _, rfl, a, C, dx, _, _, rfl, s2 _ _ ha, T.cl_Column, T.n_Column_greatest, cf_most _ _, dd, _, rfl, _, rfl, ifT (inO_of (gd.2 c' hc' e)) ?_⟩
      exact k _ (s1.trans s2)
    | grt nm g ww =>
      refine ifF (decide_eq_false (ksn (a := "greatest") (by decide +kernel))) ?_
      refine ⟨_, rfl, _, rfl, t, _, _, _, rfl, rfl, hS, at1 _, l, ls, cols, nm, rfl, c1.hl, it, fun hno => absurd gd.1 hno, fun c' v hc' e ⟨n', hn', a, dx, ev, ha⟩ => ?_⟩
      subst ev
      refine ⟨_, rfl, rfl, _, rfl, ifF rfl ?_⟩
      refine ⟨_, rfl, t, _, _, _, rfl, rfl, hS, at0 _, rfl, _, rfl, ifF (decide_eq_false (ksn (a := "greatest") (by decide +kernel))) ?_⟩
      refine ⟨_, rfl, t, _, _, _, rfl, rfl, hS, at0 _, rfl, _, rfl, ifF (decide_eq_false (ksn (a := "greatest") (by decide +kernel))) ?_⟩
      refine ⟨_, rfl, t, _, _, _, rfl, rfl, hS, at0 _, (by show 2 ≤ sizeLine; decide), fun p hp => ?_⟩
      have s2 : Same H1 (upd H1 p (.tup [.str "default", .str "fill"])) := Same.new hp
      refine ⟨p, _, rfl, .inr (SqT.of upd_same), rfl, (by decide +kernel), _, rfl, ifF (show inV (V.str "greatest") [V.str "default", V.str "fill"] = false from by decide +kernel) ?_⟩
      have hS2 := s2.seqT hS
      have ha2 := s2 _ _ ha
      refine ⟨_, rfl, t, _, _, .str ww, rfl, rfl, hS2, rfl, rfl, _, rfl, ?_⟩
      by_cases hw : ww = ("refuse" : Str)
      · refine ifT (decide_eq_true (by rw [hw])) ?_
        refine ⟨_, rfl, a, C, dx, _, _, rfl, ha2, T.cl_Column, T.n_Column_default, cf_dflt _ _, rfl, _, rfl, ?_⟩
        cases hd : c'.dflt with
        | none =>
          refine ifF rfl ?_
          refine ifF rfl ?_
          exact k _ (s1.trans s2)
        | some i =>
          refine ifT rfl ?_
          refine ⟨_, rfl, t, _, _, .int g, rfl, rfl, hS2, rfl, _, rfl, a, C, dx, _, .int i, rfl, ha2, T.cl_Column, T.n_Column_default, (by rw [cf_dflt, hd]; rfl), _, _, rfl, rfl, _, rfl, ?_⟩
          refine ifF (decide_eq_false (by have := gd.2 c' hc' e hw i hd; omega)) ?_
          exact k _ (s1.trans s2)
      · refine ifF (decide_eq_false (ksn hw)) ?_
        refine ifF rfl ?_
        exact k _ (s1.trans s2)
    | fill nm i =>
      refine ifF (decide_eq_false (ksn (a := "fill") (by decide +kernel))) ?_
      refine ⟨_, rfl, _, rfl, t, _, _, _, rfl, rfl, hS, at1 _, l, ls, cols, nm, rfl, c1.hl, it, fun hno => absurd gd.1 hno, fun c' v hc' e ⟨n', hn', a, dx, ev, ha⟩ => ?_⟩
      subst ev
      refine ⟨_, rfl, rfl, _, rfl, ifF rfl ?_⟩
      refine ⟨_, rfl, t, _, _, _, rfl, rfl, hS, at0 _, rfl, _, rfl, ifF (decide_eq_false (ksn (a := "fill") (by decide +kernel))) ?_⟩
      refine ⟨_, rfl, t, _, _, _, rfl, rfl, hS, at0 _, rfl, _, rfl, ifF (decide_eq_false (ksn (a := "fill") (by decide +kernel))) ?_⟩
      refine ⟨_, rfl, t, _, _, _, rfl, rfl, hS, at0 _, (by show 2 ≤ sizeLine; decide), fun p hp => ?_⟩
      have s2 : Same H1 (upd H1 p (.tup [.str "default", .str "fill"])) := Same.new hp
      refine ⟨p, _, rfl, .inr (SqT.of upd_same), rfl, (by decide +kernel), _, rfl, ifT (show inV (V.str "fill") [V.str "default", V.str "fill"] = true from by decide +kernel) ?_⟩
      have hS2 := s2.seqT hS
      refine ⟨_, rfl, t, _, _, .int i, rfl, rfl, hS2, rfl, _, rfl, a, C, dx, _, _, rfl, s2 _ _ ha, T.cl_Column, T.n_Column_greatest, cf_most _ _, some i, _, rfl, _, rfl, ifT (decide_eq_true ⟨hok.2.1, gd.2 c' hc' e⟩) ?_⟩
      exact k _ (s1.trans s2)
end
end Ed
/-! Editionrows: changes.py, third part: narrowed, changed_column, changed_columns. -/
namespace Ed
open PySem PySem.Spec PyProof.Rows L2
section
variable {P : Program} {w : World} {K : PySem.W.Frag} {mg : Str → Option Value} {base : Heap} {C CH : Addr}
/-! ### narrowed -/
def spNarrowed : Sp := fun vs H Q _ => ∃ (d : Option Int) (g : Int) (ww : Str), vs = [vO d, .int g, .str ww] ∧ (∀ i, d = some i → 0 ≤ i) ∧ (ww = ("refuse" : Str) → ∀ i, d = some i → i ≤ g) ∧ Q (vO (cutO g ww d)) H
theorem sc_narrowed : FnScope ["value", "greatest", "way"] ["value", "greatest", "way"] (defScope s_narrowed) := ⟨rfl, rfl, rfl, by decide +kernel, rfl, by decide +kernel, by decide +kernel⟩
theorem ok_narrowed (T : Txt K mg w C CH) : Cal P w K mg base 4 "narrowed" spNarrowed [] := by
  refine cal_of T.d_narrowed sc_narrowed (fun _ _ _ _ _ _ us hl => match us, hl with | [_, _, _], _ => rfl) (fun vs H Q E h => ?_) (fun f cdv A outer s H vs Q E hr h => ?_)
  · obtain ⟨_, _, _, rfl, _⟩ := h
    rfl
  · obtain ⟨d, g, ww, rfl, h0, h1, k⟩ := h
    refine ⟨_, pss_cons (ps_if (pt_val (C8.pe_c (ok_is_within T) hr (by decide) rfl (pa_cons (pv 0) (pa_cons (pv 1) pa_nil)))) (pss_one (ps_ret (pv 0))) pss_nil)
      (pss_cons (ps_if (pt_cmpR op_eq (pv 2) pe_str (nomark _)) (pss_one (ps_ret (pGs T.c_MISSING))) pss_nil)
      (pss_one (ps_ret (pe_ifExp (pt_cmpR op_eq (pv 2) pe_str (nomark _)) (pv 1) pe_non)))), ?_⟩
    refine ⟨_, rfl, _, rfl, d, g, rfl, _, rfl, ?_⟩
    cases d with
    | none => exact ifT rfl ⟨_, rfl, k⟩
    | some i =>
      have i0 := h0 i rfl
      by_cases hi : i ≤ g
      · refine ifT (decide_eq_true ⟨i0, hi⟩) ⟨_, rfl, ?_⟩
        have e : cutO g ww (some i) = some i := if_pos hi
        rw [e] at k
        exact k
      · refine ifF (decide_eq_false fun z => hi z.2) ?_
        have hw : ¬ ww = ("refuse" : Str) := fun e => hi (h1 e i rfl)
        refine ⟨_, rfl, rfl, _, rfl, ifF (decide_eq_false (ksn hw)) ?_⟩
        refine ⟨_, rfl, rfl, _, rfl, ?_⟩
        by_cases hc : ww = ("cut" : Str)
        · refine ifT (decide_eq_true (by rw [hc])) ⟨_, rfl, ?_⟩
          have e : cutO g ww (some i) = some g := by
            show (if i ≤ g then some i else if ww = ("cut" : Str) then some g else none) = some g
            rw [if_neg hi, if_pos hc]
          rw [e] at k
          exact k
        · refine ifF (decide_eq_false (ksn hc)) ?_
          have e : cutO g ww (some i) = none := by
            show (if i ≤ g then some i else if ww = ("cut" : Str) then some g else none) = none
            rw [if_neg hi, if_neg hc]
          rw [e] at k
          exact k
/-! ### changed_column -/
/-- what a change of this column asks of it -/
def CanC (c : Col) : Chg → Prop
  | .dfl _ d => ValO c.most d
  | .grt _ g w => w = ("refuse" : Str) → ∀ i, c.dflt = some i → i ≤ g
  | .fill _ i => i ≤ c.most
  | .rename _ _ => True
  | _ => False
def spChangedColumn (C : Addr) : Sp := fun vs H Q _ => ∃ (v : V) (t : Addr) (c : Col) (ch : Chg) (m : Int), vs = [v, .ref t] ∧ ColN C c v H ∧ ColOk 3 c ∧ H t = some (.tup ch.vals) ∧ ChgOk m ch ∧ m ≤ 99 ∧ CanC c ch ∧
  ∀ H' v', Same H H' → ColN C (colThen c ch) v' H' → Q v' H'
theorem sc_changed_column : FnScope ["column", "change", "default"] ["column", "change"] (defScope s_changed_column) := ⟨rfl, rfl, rfl, by decide +kernel, rfl, by decide +kernel, by decide +kernel⟩
theorem valO_in {m : Int} {d : Option Int} (h : ValO m d) : ∀ i, d = some i → 0 ≤ i := fun i e => (h i e).1
theorem ok_changed_column (T : Txt K mg w C CH) : Cal P w K mg base 7 "changed_column" (spChangedColumn C) [] := by
  refine cal_of T.d_changed_column sc_changed_column (fun _ _ _ _ _ _ us hl => match us, hl with | [_, _], _ => rfl) (fun vs H Q E h => ?_) (fun f cdv A outer s H vs Q E hr h => ?_)
  · obtain ⟨_, _, _, _, _, rfl, _⟩ := h
    rfl
  · obtain ⟨v, t, c, ch, m, rfl, ⟨n, hn, a, dx, rfl, ha⟩, hc, ht, hch, hm, can, k⟩ := h
    have hS := SqT.of (K := K) ht
    have hA : ColAt C H (.ref a) c n := ⟨a, dx, rfl, ha⟩
    have hno : (cf c n).lookup ("changed" : Str) = none := cf_no c n (by decide +kernel)
    refine ⟨_, pss_cons (ps_if (pt_cmpR op_eq (pe_ix ix_tup (pv 1) pe_int (fun _ _ => rfl)) pe_str (nomark _)) (pss_one (ps_ret (C8.pe_mt (met_changed T) hr (by decide) (pv 0) (pa_cons pe_str (pa_cons (pe_ix ix_tup (pv 1) pe_int (fun _ _ => rfl)) pa_nil))))) pss_nil)
      (pss_cons (ps_if (pt_cmpR op_eq (pe_ix ix_tup (pv 1) pe_int (fun _ _ => rfl)) pe_str (nomark _)) (pss_one (ps_ret (C8.pe_mt (met_changed T) hr (by decide) (pv 0) (pa_cons pe_str (pa_cons (pe_ix ix_tup (pv 1) pe_int (fun _ _ => rfl)) pa_nil))))) pss_nil)
      (pss_cons (ps_if (pt_cmpR op_eq (pe_ix ix_tup (pv 1) pe_int (fun _ _ => rfl)) pe_str (nomark _))
        (pss_cons (ps_set (i := 2) sc_changed_column.nd rfl (Or.inl rfl) (C8.pe_c (ok_narrowed T) hr (by decide) rfl (pa_cons (pe_fld (pv 0) rfl) (pa_cons (pe_ix ix_tup (pv 1) pe_int (fun _ _ => rfl)) (pa_cons (pe_ix ix_tup (pv 1) pe_int (fun _ _ => rfl)) pa_nil)))))
        (pss_one (ps_ret (pe_colK T hr (by decide) (pa_cons (pe_fld (pv 0) rfl) (pa_cons (pe_ix ix_tup (pv 1) pe_int (fun _ _ => rfl)) (pa_cons (pv 2) pa_nil))) (pk_cons (pe_fld (pv 0) rfl) pk_nil))))) pss_nil)
      (pss_one (ps_ret (pv 0))))), ?_⟩
    refine ⟨_, rfl, t, _, _, _, rfl, rfl, hS, at0 ch, rfl, _, rfl, ?_⟩
    have cv : ColV c n := hc.v (by decide) hn
    cases ch with
    | add nm g dd => exact can.elim
    | drop nm => exact can.elim
    | rename nm n2 =>
      refine ifT (decide_eq_true rfl) ?_
      exact ⟨_, rfl, a, dx, _, rfl, ha, hno, _, rfl, t, _, _, .str n2, rfl, rfl, hS, rfl, a, c, ⟨n2, c.most, c.dflt⟩, n, n, "name", .str n2, rfl, hA, .name n2 c n, ⟨hch.2.ok, cv.most, cv.dflt, hn⟩, fun H' b s1 _ h1 => k H' _ s1 ⟨n, hn, h1⟩⟩
    | dfl nm dd =>
      refine ifF (decide_eq_false (ksn (a := "default") (by decide +kernel))) ?_
      refine ⟨_, rfl, t, _, _, _, rfl, rfl, hS, at0 _, rfl, _, rfl, ifT (decide_eq_true rfl) ?_⟩
      exact ⟨_, rfl, a, dx, _, rfl, ha, hno, _, rfl, t, _, _, vO dd, rfl, rfl, hS, rfl, a, c, ⟨c.name, c.most, dd⟩, n, n, "default", vO dd, rfl, hA, .dflt dd c n, ⟨cv.name, cv.most, inO_of can, hn⟩, fun H' b s1 _ h1 => k H' _ s1 ⟨n, hn, h1⟩⟩
    | grt nm g ww =>
      obtain ⟨h1, h2, h3⟩ := hch
      refine ifF (decide_eq_false (ksn (a := "greatest") (by decide +kernel))) ?_
      refine ⟨_, rfl, t, _, _, _, rfl, rfl, hS, at0 _, rfl, _, rfl, ifF (decide_eq_false (ksn (a := "greatest") (by decide +kernel))) ?_⟩
      refine ⟨_, rfl, t, _, _, _, rfl, rfl, hS, at0 _, rfl, _, rfl, ifT (decide_eq_true rfl) ?_⟩
      refine ⟨_, rfl, a, C, dx, _, _, rfl, ha, T.cl_Column, T.n_Column_default, cf_dflt _ _, _, rfl, t, _, _, .int g, rfl, rfl, hS, rfl, _, rfl, t, _, _, .str ww, rfl, rfl, hS, rfl, c.dflt, g, ww, rfl, valO_in hc.dflt, can, ?_⟩
      refine ⟨_, rfl, a, C, dx, _, _, rfl, ha, T.cl_Column, T.n_Column_name, cf_name _ _, _, rfl, t, _, _, .int g, rfl, rfl, hS, rfl, _, rfl, _, rfl, a, C, dx, _, _, rfl, ha, T.cl_Column, T.n_Column_number, cf_num _ _, ?_⟩
      exact colK_fin (c := ⟨c.name, g, cutO g ww c.dflt⟩) (n := n) ⟨cv.name, by show 1 ≤ g ∧ g ≤ 99; omega, inO_of (cutO_ok h2.1 hc.dflt), hn⟩ fun H3 b s1 _ h1 => k H3 _ s1 ⟨n, hn, h1⟩
    | fill nm i =>
      refine ifF (decide_eq_false (ksn (a := "fill") (by decide +kernel))) ?_
      refine ⟨_, rfl, t, _, _, _, rfl, rfl, hS, at0 _, rfl, _, rfl, ifF (decide_eq_false (ksn (a := "fill") (by decide +kernel))) ?_⟩
      refine ⟨_, rfl, t, _, _, _, rfl, rfl, hS, at0 _, rfl, _, rfl, ifF (decide_eq_false (ksn (a := "fill") (by decide +kernel))) ?_⟩
      exact ⟨_, rfl, k H _ (Same.refl H) ⟨n, hn, hA⟩⟩
/-! ### changed_columns -/
def NotAD : Chg → Prop
  | .add _ _ _ => False
  | .drop _ => False
  | _ => True
theorem good_can {cols : List Col} {ch : Chg} (g : Good cols ch) (h : NotAD ch) {c : Col} (hc : c ∈ cols) (e : c.name = ch.name) : CanC c ch := by
  cases ch with
  | add _ _ _ => exact h.elim
  | drop _ => exact h.elim
  | rename _ _ => trivial
  | dfl _ _ => exact g.2 c hc e
  | grt _ _ _ => exact g.2 c hc e
  | fill _ _ => exact g.2 c hc e
def spChangedColumns (C : Addr) : Sp := fun vs H Q _ => ∃ (l t : Addr) (n : Int) (ls : List V) (cols : List Col) (c : Chg) (m : Int), vs = [.ref l, .ref t, .int n] ∧ 0 ≤ n ∧ CC C H l t ls cols c m ∧ (∀ x ∈ cols, ColOk 3 x) ∧ cols.length ≤ 6 ∧
  ∀ H' p us, Same H H' → H p = none → H' p = some (.lst us) → ItemsAt (ColN C) (thenC cols c) us H' → Q (.ref p) H'
theorem sc_changed_columns : FnScope ["columns", "change", "number", "word", "column"] ["columns", "change", "number"] (defScope s_changed_columns) := ⟨rfl, rfl, rfl, by decide +kernel, rfl, by decide +kernel, by decide +kernel⟩
theorem ok_changed_columns (T : Txt K mg w C CH) : Cal P w K mg base 8 "changed_columns" (spChangedColumns C) [] := by
  refine cal_of T.d_changed_columns sc_changed_columns (fun _ _ _ _ _ _ us hl => match us, hl with | [_, _, _], _ => rfl) (fun vs H Q E h => ?_) (fun f cdv A outer s H vs Q E hr h => ?_)
  · obtain ⟨_, _, _, _, _, _, _, rfl, _⟩ := h
    rfl
  · obtain ⟨l, t, n, ls, cols, c, m, rfl, hn, cc, hco, hlen, k⟩ := h
    refine ⟨_, pss_cons (ps_set (i := 3) sc_changed_columns.nd rfl (Or.inl rfl) (C8.pe_c (ok_why_not T) hr (by decide) rfl (pa_cons (pv 0) (pa_cons (pv 1) pa_nil))))
      (pss_cons (ps_if (pt_cmpR op_notN (pv 3) pe_non (nomark _)) (pss_one ps_never) pss_nil)
      (pss_cons (ps_if (pt_cmpR op_eq (pe_ix ix_tup (pv 1) pe_int (fun _ _ => rfl)) pe_str (nomark _)) (pss_one (ps_ret (pe_lst (StX.pa_star (pv 0) (pa_cons (pe_colK T hr (by decide) (pa_cons (pe_ix ix_tup (pv 1) pe_int (fun _ _ => rfl)) (pa_cons (pe_ix ix_tup (pv 1) pe_int (fun _ _ => rfl)) (pa_cons (pe_ix ix_tup (pv 1) pe_int (fun _ _ => rfl)) pa_nil))) (pk_cons (pv 2) pk_nil)) pa_nil))))) pss_nil)
      (pss_cons (ps_if (pt_cmpR op_eq (pe_ix ix_tup (pv 1) pe_int (fun _ _ => rfl)) pe_str (nomark _)) (pss_one (ps_ret (pe_lc (own := [("column", 4)]) (g := gName 4) (tt := tTest (tOp rNe (tFld K (tVar 4) "name") (tOp (rIxT K) (tVar 1) (tC (.int 1))))) (te := tVar 4) rfl sc_changed_columns.nd (pi_list (pv 0)) (blkOk_by (own := [("column", 4)]) (N := ["columns", "change", "number", "word", "column"]) (sc := defScope s_changed_columns) (by decide +kernel))
          (fun _ _ _ _ _ => pg_name (i := 4) sc_changed_columns.nd rfl (Or.inl rfl)) (fun _ _ _ _ _ => pts_one (pt_cmpR op_ne (pe_fld (pv 4) rfl) (pe_ix ix_tup (pv 1) pe_int (fun _ _ => rfl)) (nomark _))) (fun _ _ _ _ _ => pv 4)))) pss_nil)
      (pss_one (ps_ret (pe_lc (own := [("column", 4)]) (g := gName 4) (tt := tYes) (te := tIf (tTest (tOp rEq (tFld K (tVar 4) "name") (tOp (rIxT K) (tVar 1) (tC (.int 1))))) (tCall (spChangedColumn C) [] C8.E0 (tCons (tVar 4) (tCons (tVar 1) tNil))) (tVar 4)) rfl sc_changed_columns.nd (pi_list (pv 0)) (blkOk_by (own := [("column", 4)]) (N := ["columns", "change", "number", "word", "column"]) (sc := defScope s_changed_columns) (by decide +kernel))
          (fun _ _ _ _ _ => pg_name (i := 4) sc_changed_columns.nd rfl (Or.inl rfl)) (fun _ _ _ _ _ => pts_nil) (fun _ _ _ _ _ => pe_ifExp (pt_cmpR op_eq (pe_fld (pv 4) rfl) (pe_ix ix_tup (pv 1) pe_int (fun _ _ => rfl)) (nomark _)) (C8.pe_c (ok_changed_column T) hr (by decide) rfl (pa_cons (pv 4) (pa_cons (pv 1) pa_nil))) (pv 4)))))))), ?_⟩
    refine ⟨_, rfl, _, rfl, l, t, ls, cols, c, m, rfl, cc, fun H1 s1 => ?_⟩
    have c1 := cc.same s1
    have hS := SqT.of (K := K) c1.ht
    have it := c1.it
    have hll := it.len
    refine ⟨_, rfl, rfl, _, rfl, ifF rfl ?_⟩
    refine ⟨_, rfl, t, _, _, _, rfl, rfl, hS, at0 c, rfl, _, rfl, ?_⟩
    -- the comprehension that changes one column
    have change : NotAD c → thenC cols c = cols.map (fun col => if col.name = c.name then colThen col c else col) →
        tLc (iList K (tVar 0)) (gName 4) tYes (tIf (tTest (tOp rEq (tFld K (tVar 4) "name") (tOp (rIxT K) (tVar 1) (tC (.int 1))))) (tCall (spChangedColumn C) [] C8.E0 (tCons (tVar 4) (tCons (tVar 1) tNil))) (tVar 4)) [4] [some (.ref l), some (.ref t), some (.int n), some .non, none] H1 Q := fun hk hth => by
      refine ⟨_, rfl, l, rfl, ⟨_, SqL.of c1.hl⟩, fun D hD => ?_⟩
      refine lc_map walk_list (fun i v H' => ∀ x, (thenC cols c)[i]? = some x → ColN C x v H') (fun i v H2 H3 kk r x e => ColN.keep _ _ _ _ kk (r x e)) (by omega) hD (fun H2 s2 => (s2.seq (SqL.of c1.hl))) (fun i x H2 H' Kt hi s2 y kt => ?_) (fun H2 acc s2 hD2 hl2 hr2 => ?_)
      · obtain ⟨rfl, hx⟩ := y
        obtain ⟨cx, hcx, rx⟩ := it.get hx
        have rx2 := ColN.keep _ _ _ _ s2.keep rx
        obtain ⟨nx, hnx, a, dx, rfl, ha⟩ := id rx2
        have hmem := List.mem_of_getElem? hcx
        have hget : (thenC cols c)[i]? = some (if cx.name = c.name then colThen cx c else cx) := by
          rw [hth, List.getElem?_map, hcx]
          rfl
        refine ⟨rfl, ?_⟩
        refine ⟨_, rfl, a, C, dx, _, _, rfl, ha, T.cl_Column, T.n_Column_name, cf_name _ _, _, rfl, t, _, _, _, rfl, rfl, s2.seqT hS, at1 c, rfl, _, rfl, ?_⟩
        by_cases e : cx.name = c.name
        · refine ifT (decide_eq_true (by rw [e])) ?_
          rw [if_pos e] at hget
          exact ⟨_, rfl, _, rfl, _, t, cx, c, m, rfl, rx2, hco cx hmem, s2 _ _ c1.ht, c1.ok, c1.hm, good_can c1.gd hk hmem e, fun H3 v' s3 r3 => kt v' H3 s3 fun x ex => by
            rw [hget] at ex
            rw [← Option.some.inj ex]
            exact r3⟩
        · refine ifF (decide_eq_false (ksn e)) ?_
          rw [if_neg e] at hget
          exact ⟨_, rfl, kt _ _ (Same.refl _) fun x ex => by
            rw [hget] at ex
            rw [← Option.some.inj ex]
            exact rx2⟩
      · refine k H2 D acc (s1.trans s2) (s1.free hD) hD2 ⟨?_, fun i x v h1 h2 => hr2 i v h2 x h1⟩
        rw [hl2, hth, List.length_map]
        exact hll
    cases c with
    | add nm g dd =>
      refine ifT (decide_eq_true rfl) ?_
      obtain ⟨o1, o2, o3⟩ := c1.ok
      refine ⟨_, rfl, l, ls, rfl, .inr (SqL.of c1.hl), _, rfl, t, _, _, .str nm, rfl, rfl, hS, rfl, _, rfl, t, _, _, .int g, rfl, rfl, hS, rfl, _, rfl, t, _, _, vO dd, rfl, rfl, hS, rfl, ?_⟩
      have hm := c1.hm
      refine ⟨_, rfl, ?_⟩
      refine colK_fin (c := ⟨nm, g, dd⟩) (n := n) ⟨o1.ok, by show 1 ≤ g ∧ g ≤ 99; omega, inO_of c1.gd.2.2, hn⟩ fun H3 a s3 _ h3 => ?_
      refine ⟨small_le (by rw [List.length_append, List.length_singleton]; omega), fun p hp => ?_⟩
      have s4 : Same H3 (upd H3 p (.lst (ls ++ [.ref a]))) := Same.new hp
      have it3 := it.keep ColN.keep s3.keep
      refine k _ p (ls ++ [.ref a]) ((s1.trans s3).trans s4) ((s1.trans s3).free hp) upd_same ?_
      have z := it3.snoc (x := (⟨nm, g, dd⟩ : Col)) (v := V.ref a) ⟨n, hn, h3⟩
      exact z.keep ColN.keep s4.keep
    | drop nm =>
      refine ifF (decide_eq_false (ksn (a := "drop") (by decide +kernel))) ?_
      refine ⟨_, rfl, t, _, _, _, rfl, rfl, hS, at0 _, rfl, _, rfl, ifT (decide_eq_true rfl) ?_⟩
      refine ⟨_, rfl, l, rfl, ⟨_, SqL.of c1.hl⟩, fun D hD => ?_⟩
      refine lc_list (K := K) (a := l) (xs := ls) (fun i H' => Same H1 H' ∧ ∃ acc, H' D = some (.lst acc) ∧ acc.length ≤ i ∧ ItemsAt (ColN C) ((cols.take i).filter fun c => !decide (c.name = nm)) acc H') ⟨Same.new hD, [], upd_same, Nat.le_refl _, ItemsAt.nil⟩
        (fun i H' _ p => p.1.seq (SqL.of c1.hl)) (fun i x H2 hx p => ?_) (fun H2 p => ?_)
      · obtain ⟨s2, acc, hD2, hla, ia⟩ := p
        obtain ⟨cx, hcx, rx⟩ := it.get hx
        have rx2 := ColN.keep _ _ _ _ s2.keep rx
        obtain ⟨nx, hnx, a, dx, rfl, ha⟩ := id rx2
        have htk : cols.take (i + 1) = cols.take i ++ [cx] := by rw [List.take_add_one, hcx]; rfl
        have hi : i < ls.length := (List.getElem?_eq_some_iff.mp hx).1
        refine ⟨rfl, ?_⟩
        refine ⟨_, rfl, a, C, dx, _, _, rfl, ha, T.cl_Column, T.n_Column_name, cf_name _ _, _, rfl, t, _, _, _, rfl, rfl, s2.seqT hS, at1 _, rfl, _, rfl, ?_⟩
        by_cases e : cx.name = nm
        · refine ifF (show (!decide (V.str cx.name = V.str nm)) = false by rw [e]; simp) ?_
          refine ⟨s2, acc, hD2, by omega, ?_⟩
          rw [htk, List.filter_append, List.filter_cons, if_neg (by simp [e]), List.filter_nil, List.append_nil]
          exact ia
        · refine ifT (show (!decide (V.str cx.name = V.str nm)) = true by rw [decide_eq_false (ksn e)]; rfl) ?_
          refine ⟨_, rfl, acc, hD2, small_lt (by omega), Same.upd s2 hD, acc ++ [.ref a], upd_same, by rw [List.length_append, List.length_singleton]; omega, ?_⟩
          rw [htk, List.filter_append, List.filter_cons, if_pos (by simp [e]), List.filter_nil]
          exact (ia.snoc rx2).keep ColN.keep (Keep.lst hD2)
      · obtain ⟨s2, acc, hD2, hla, ia⟩ := p
        rw [hll, List.take_length] at ia
        exact k H2 D acc (s1.trans s2) (s1.free hD) hD2 ia
    | rename nm n2 =>
      refine ifF (decide_eq_false (ksn (a := "rename") (by decide +kernel))) ?_
      refine ⟨_, rfl, t, _, _, _, rfl, rfl, hS, at0 _, rfl, _, rfl, ifF (decide_eq_false (ksn (a := "rename") (by decide +kernel))) ?_⟩
      exact change trivial rfl
    | dfl nm dd =>
      refine ifF (decide_eq_false (ksn (a := "default") (by decide +kernel))) ?_
      refine ⟨_, rfl, t, _, _, _, rfl, rfl, hS, at0 _, rfl, _, rfl, ifF (decide_eq_false (ksn (a := "default") (by decide +kernel))) ?_⟩
      exact change trivial rfl
    | grt nm g ww =>
      refine ifF (decide_eq_false (ksn (a := "greatest") (by decide +kernel))) ?_
      refine ⟨_, rfl, t, _, _, _, rfl, rfl, hS, at0 _, rfl, _, rfl, ifF (decide_eq_false (ksn (a := "greatest") (by decide +kernel))) ?_⟩
      exact change trivial rfl
    | fill nm i =>
      refine ifF (decide_eq_false (ksn (a := "fill") (by decide +kernel))) ?_
      refine ⟨_, rfl, t, _, _, _, rfl, rfl, hS, at0 _, rfl, _, rfl, ifF (decide_eq_false (ksn (a := "fill") (by decide +kernel))) ?_⟩
      exact change trivial rfl
end
end Ed
/-! Editionrows: histories.py, first part: checked_columns, next_number, all_sheets. -/
namespace Ed
open PySem PySem.Spec PyProof.Rows L2
/-- columns with the numbers of their places -/
structure ColsNum (C : Addr) (cols : List Col) (ls : List V) (H : Hp) : Prop where
  len : ls.length = cols.length
  each : ∀ (i : Nat) (c : Col) (v : V), cols[i]? = some c → ls[i]? = some v → ColAt C H v c (i : Int)
theorem ColsNum.keep {C : Addr} {cols : List Col} {ls : List V} {H H' : Hp} (h : ColsNum C cols ls H) (k : Keep H H') : ColsNum C cols ls H' := ⟨h.len, fun i c v h1 h2 => (h.each i c v h1 h2).keep k⟩
theorem ColsNum.it {C : Addr} {cols : List Col} {ls : List V} {H : Hp} (h : ColsNum C cols ls H) : ItemsAt (ColN C) cols ls H := ⟨h.len, fun i c v h1 h2 => ⟨(i : Int), by omega, h.each i c v h1 h2⟩⟩
/-- a change stands at v -/
def ChgT (c : Chg) (v : V) (H : Hp) : Prop := ∃ t, v = .ref t ∧ H t = some (.tup c.vals)
theorem ChgT.keep (c : Chg) (v : V) (H H' : Hp) (k : Keep H H') (h : ChgT c v H) : ChgT c v H' := by
  obtain ⟨t, e, h⟩ := h
  exact ⟨t, e, k _ _ trivial h⟩
theorem valV_no {κ : Type} [DecidableEq κ] {kvs : List (κ × V)} {k : κ} (h : ¬ k ∈ kvs.map (·.1)) : valV kvs k = none := by
  cases e : valV kvs k with
  | none => rfl
  | some v => exact absurd (valV_in e) h
theorem kit_ll : kitB "list" "list" = some true := by decide +kernel
theorem kit_lt {K : PySem.W.Frag} : PySem.W.kitAny K (.type "list") [.type "list", .type "tuple"] = some true := kitAny_cons (kit_ty kit_ll) (fun h => nomatch h) fun _ => rfl
theorem cls_lt : Paired ClsV [V.ty "list", .ty "tuple"] [Value.type "list", .type "tuple"] := .cons (.ty _) (.cons (.ty _) .nil)
theorem atI_last {xs : List V} {v : V} (h : xs[xs.length - 1]? = some v) : atI xs (-1) = some v := by
  have hl : xs.length - 1 < xs.length := (List.getElem?_eq_some_iff.mp h).1
  unfold atI ixN
  rw [if_neg (by decide), if_pos (by omega)]
  have e : ((-1 : Int) + (xs.length : Int)).toNat = xs.length - 1 := by omega
  rw [e]
  exact h
section
variable {P : Program} {w : World} {K : PySem.W.Frag} {mg : Str → Option Value} {base : Heap} {C CH : Addr}
/-! ### checked_columns -/
def spChecked (C : Addr) : Sp := fun vs H Q _ => ∃ (l : Addr) (ls : List V) (cols : List Col), vs = [.ref l] ∧ H l = some (.lst ls) ∧ ItemsAt (ColN C) cols ls H ∧ ColsOk cols ∧ cols ≠ [] ∧
  ∀ H' p us, Same H H' → H p = none → H' p = some (.lst us) → ColsNum C cols us H' → Q (.ref p) H'
theorem sc_checked_columns : FnScope ["columns", "known", "index", "column"] ["columns"] (defScope s_checked_columns) := ⟨rfl, rfl, rfl, by decide +kernel, rfl, by decide +kernel, by decide +kernel⟩
theorem ok_checked_columns (T : Txt K mg w C CH) : Cal P w K mg base 7 "checked_columns" (spChecked C) [] := by
  refine cal_of T.d_checked_columns sc_checked_columns (fun _ _ _ _ _ _ us hl => match us, hl with | [_], _ => rfl) (fun vs H Q E h => ?_) (fun f cdv A outer s H vs Q E hr h => ?_)
  · obtain ⟨_, _, _, rfl, _⟩ := h
    rfl
  · obtain ⟨l, ls, cols, rfl, hl, it, co, hne, k⟩ := h
    have hu := hu_of hr
    refine ⟨_, pss_cons (ps_if (PW.pt (pw_or (pt_not (pt_val (pe_callB call_isiT rfl T.b_isinstance boot_isinstance (pa_cons (pv 0) (pa_cons (pe_tup (pa_cons (pTy T.b_list boot_list) (pa_cons (pTy T.b_tuple boot_tuple) pa_nil))) pa_nil)))))
        (pw_or1 (pt_cmpR op_eq (pe_callB call_len_seq rfl T.b_len PySem.boot_len (pa_cons (pv 0) pa_nil)) pe_int (nomark _))))) (pss_one ps_never) pss_nil)
      (pss_cons (ps_set (i := 1) sc_checked_columns.nd rfl (Or.inl rfl) pe_dnewK)
      (pss_cons (ps_for PassesOwn.never rfl (pi_enum (by rfl) T.b_enumerate (pa_cons (pv 0) pa_nil)) (pg_tup rfl (pgs_cons (pg_name (i := 2) sc_checked_columns.nd rfl (Or.inl rfl)) (pgs_cons (pg_name (i := 3) sc_checked_columns.nd rfl (Or.inl rfl)) pgs_nil)))
        (pss_cons (ps_if (PW.pt (pw_or (pt_not (pt_val (pe_callB (C8.call_isC T.is_Column) rfl T.b_isinstance boot_isinstance (pa_cons (pv 3) (pa_cons (pe_glob (v := .ref C) rfl T.g_Column rfl) pa_nil)))))
            (pw_or1 (pt_cmp (pc_din hu (pe_fld (pv 3) rfl) (pv 1)))))) (pss_one ps_never) pss_nil)
        (pss_one (ps_dput hu (pv 1) (pe_fld (pv 3) rfl) pe_bl rfl))))
      (pss_cons (ps_if (pt_cmpR op_gt (pe_callB call_len_seq rfl T.b_len PySem.boot_len (pa_cons (pv 0) pa_nil)) (pGi T.c_MOST_COLUMNS) (nomark _)) (pss_one ps_never) pss_nil)
      (pss_one (ps_ret (pe_lc (own := [("index", 2), ("column", 3)]) (g := gTup K 2 (gCons (gName 2) (gCons (gName 3) gNil))) (tt := tYes) (te := tMeth C "changed" (spChanged C) [] C8.E0 (tVar 3) (tCons (tC (.str "number")) (tCons (tVar 2) tNil))) rfl sc_checked_columns.nd
          (pi_enum (by rfl) T.b_enumerate (pa_cons (pv 0) pa_nil)) (blkOk_by (own := [("index", 2), ("column", 3)]) (N := ["columns", "known", "index", "column"]) (sc := defScope s_checked_columns) (by decide +kernel))
          (fun _ _ _ _ _ => pg_tup rfl (pgs_cons (pg_name (i := 2) sc_checked_columns.nd rfl (Or.inl rfl)) (pgs_cons (pg_name (i := 3) sc_checked_columns.nd rfl (Or.inl rfl)) pgs_nil)))
          (fun _ _ _ _ _ => pts_nil) (fun _ _ _ _ _ => C8.pe_mt (met_changed T) hr (by decide) (pv 3) (pa_cons pe_str (pa_cons (pv 2) pa_nil))))))))), ?_⟩
    have hlen := it.len
    refine ⟨_, rfl, (by show 2 ≤ sizeLine; decide), fun p hp => ?_⟩
    have s1 : Same H (upd H p (.tup [.ty "list", .ty "tuple"])) := Same.new hp
    refine ⟨_, p, _, _, _, _, rfl, upd_same, cls_lt, .base (.lst (s1 _ _ hl)), kit_lt, _, rfl, iteF ?_⟩
    refine ⟨_, rfl, l, ls, rfl, .inl (SqL.of (s1 _ _ hl)), rfl, _, rfl, ifF (decide_eq_false fun z => hne (List.eq_nil_of_length_eq_zero (by have := V.int.inj z; omega))) ?_⟩
    intro d hd
    generalize upd H p (.tup [.ty "list", .ty "tuple"]) = H1 at s1 hd ⊢
    refine ⟨_, rfl, l, ls, rfl, SqL.of (Same.new hd _ _ (s1 _ _ hl)), ?_⟩
    refine for_it walk_enum (fun i σ H' => ∃ a b kvs, σ = [some (.ref l), some (.ref d), a, b] ∧ Same H1 H' ∧ H' d = some (.dK kvs) ∧ kvs.map (·.1) = (cols.take i).map fun c => (Sum.inr c.name : Key)) ⟨_, _, [], rfl, Same.new hd, upd_same, rfl⟩
      (fun i σ H' _ ⟨_, _, _, _, s2, _⟩ => SqL.of (s2 _ _ (s1 _ _ hl))) ?_ ?_
    · rintro i x σ H2 H3 hi ⟨a, b, kvs, rfl, s2, hkd, hk⟩ ⟨t, x1, x2, rfl, ht, rfl, e1, e2⟩
      have e1 := Option.some.inj e1
      subst e1
      obtain ⟨c, hc, rc⟩ := it.get e2
      have s3 : Same H1 (upd H2 t (.tup [.int (i : Nat), x2])) := Same.upd s2 (s2.free ht)
      obtain ⟨n, hn, ad, dx, rfl, ha⟩ := ColN.keep _ _ _ _ (s1.trans s3).keep rc
      have hdt : d ≠ t := ne_of_none hkd ht
      have hkd3 : (upd H2 t (.tup [.int (i : Nat), .ref ad])) d = some (.dK kvs) := by rw [upd_ne hdt]; exact hkd
      refine ⟨t, _, rfl, SqT.of upd_same, rfl, _, _, rfl, _, _, rfl, rfl, ?_⟩
      refine ⟨_, rfl, ad, dx, _, rfl, ha, _, rfl, iteF ?_⟩
      refine ⟨_, rfl, ad, C, dx, _, _, rfl, ha, T.cl_Column, T.n_Column_name, cf_name _ _, _, rfl, d, _, rfl, DGet.k (k := Sum.inr c.name) hkd3, _, rfl, ?_⟩
      have hv : valV kvs (Sum.inr c.name : Key) = none := valV_no fun m => by
        rw [hk] at m
        obtain ⟨c2, h2, e⟩ := List.mem_map.mp m
        obtain ⟨j, hj, ej⟩ := List.mem_iff_getElem.mp h2
        have hj2 : j < i := by rw [List.length_take] at hj; omega
        have en : c2.name = c.name := Sum.inr.inj e
        have hx1 : (cols.map (·.name))[j]? = some c2.name := by
          rw [List.getElem?_map]
          have : cols[j]? = some c2 := by
            rw [← ej, List.getElem_take]
            exact List.getElem?_eq_getElem _
          rw [this]
          rfl
        have hx2 : (cols.map (·.name))[i]? = some c2.name := by
          rw [List.getElem?_map, hc, en]
          rfl
        have hji := nd_ix co.nd hx1 hx2
        omega
      rw [hv]
      refine ifF rfl ?_
      have hkl : kvs.length ≤ 6 := by
        have e := congrArg List.length hk
        rw [List.length_map, List.length_map, List.length_take] at e
        have := co.most
        omega
      refine ⟨_, rfl, _, rfl, ad, C, dx, _, _, rfl, ha, T.cl_Column, T.n_Column_name, cf_name _ _, d, _, rfl, DPut.k (k := Sum.inr c.name) hkd3 (small_lt (by omega)), ?_⟩
      refine ⟨_, _, putK kvs (Sum.inr c.name : Key) (.bl true), rfl, Same.upd s3 hd, upd_same, ?_⟩
      rw [putK_new _ hv, List.map_append, hk, List.take_add_one, hc, List.map_append]
      rfl
    · rintro σ H2 ⟨a, b, kvs, rfl, s2, hkd, hk⟩
      have s3 := s1.trans s2
      refine ⟨_, rfl, l, ls, rfl, .inl (SqL.of (s3 _ _ hl)), _, _, rfl, rfl, _, rfl, ifF (decide_eq_false (by have := co.most; omega)) ?_⟩
      refine ⟨_, rfl, l, ls, rfl, SqL.of (s3 _ _ hl), fun D hD => ?_⟩
      refine lc_map walk_enum (fun i v H' => ∀ c, cols[i]? = some c → ColAt C H' v c (i : Int)) (fun i v H2 H3 kk r x e => (r x e).keep kk) (by have := co.most; omega) hD (fun H3 s4 => SqL.of (s4 _ _ (s3 _ _ hl))) (fun i x H3 H4 Kt hi s4 y kt => ?_) (fun H3 acc s4 hD3 hl3 hr3 => ?_)
      · obtain ⟨t, x1, x2, rfl, ht, rfl, e1, e2⟩ := y
        have e1 := Option.some.inj e1
        subst e1
        obtain ⟨c, hc, rc⟩ := it.get e2
        have s5 : Same H3 (upd H3 t (.tup [.int (i : Nat), x2])) := Same.new ht
        obtain ⟨n, hn, ad, dx, rfl, ha⟩ := ColN.keep _ _ _ _ ((s3.trans s4).trans s5).keep rc
        refine ⟨t, _, rfl, SqT.of upd_same, rfl, _, _, rfl, _, _, rfl, rfl, ?_⟩
        refine ⟨rfl, ?_⟩
        have cv := (co.each c (List.mem_of_getElem? hc)).v (by decide) (n := (i : Int)) (by omega)
        refine ⟨_, rfl, ad, dx, _, rfl, ha, cf_no _ _ (by decide +kernel), _, rfl, ad, c, c, n, (i : Int), "number", .int (i : Int), rfl, ⟨ad, dx, rfl, ha⟩, .num (i : Int) c n, cv, fun H5 b2 s6 _ h5 => ?_⟩
        exact kt _ H5 (s5.trans s6) fun c' e' => by
          rw [hc] at e'
          rw [← Option.some.inj e']
          exact h5
      · exact k H3 D acc (s3.trans s4) (s3.free hD) hD3 ⟨by rw [hl3, hlen], fun i c v h1 h2 => hr3 i v h2 c h1⟩
/-! ### next_number -/
def spNextNumber : Sp := fun vs H Q _ => ∃ (n : Int) (t : Addr) (c : Chg), vs = [.int n, .ref t] ∧ H t = some (.tup c.vals) ∧ ∀ n', n ≤ n' → Q (.int n') H
theorem sc_next_number : FnScope ["number", "change"] ["number", "change"] (defScope s_next_number) := ⟨rfl, rfl, rfl, by decide +kernel, rfl, by decide +kernel, by decide +kernel⟩
theorem ok_next_number (T : Txt K mg w C CH) : Cal P w K mg base 1 "next_number" spNextNumber [] := by
  refine cal_of T.d_next_number sc_next_number (fun _ _ _ _ _ _ us hl => match us, hl with | [_, _], _ => rfl) (fun vs H Q E h => ?_) (fun f cdv A outer s H vs Q E hr h => ?_)
  · obtain ⟨_, _, _, rfl, _⟩ := h
    rfl
  · obtain ⟨n, t, c, rfl, ht, k⟩ := h
    refine ⟨_, pss_one (ps_ret (pe_ifExp (pt_cmpR op_eq (pe_ix ix_tup (pv 1) pe_int (fun _ _ => rfl)) pe_str (nomark _)) (pe_op op_add (pv 0) pe_int) (pv 0))), ?_⟩
    refine ⟨_, rfl, t, _, _, _, rfl, rfl, SqT.of ht, at0 c, rfl, _, rfl, ?_⟩
    refine ite2 (fun _ => ?_) (fun _ => ?_)
    · exact ⟨_, rfl, n, 1, rfl, rfl, k _ (by omega)⟩
    · exact ⟨_, rfl, k _ (Int.le_refl n)⟩
/-! ### all_sheets -/
def spAllSheets (C : Addr) : Sp := fun vs H Q _ => ∃ (l kk : Addr) (ls ts : List V) (cols : List Col) (cs : List Chg), vs = [.ref l, .ref kk] ∧ H l = some (.lst ls) ∧ ItemsAt (ColN C) cols ls H ∧ H kk = some (.lst ts) ∧ ItemsAt ChgT cs ts H ∧
  ColsOk cols ∧ Chain cols cs ∧ (∀ c ∈ cs, ChgOk 3 c) ∧ cs.length ≤ 40 ∧
  ∀ H' t sl rest g, Same H H' → H' t = some (.tup [.ref sl, .int g]) → H' sl = some (.lst (.ref l :: rest)) → Q (.ref t) H'
theorem sc_all_sheets : FnScope ["columns", "changes", "sheets", "number", "index", "change"] ["columns", "changes"] (defScope s_all_sheets) := ⟨rfl, rfl, rfl, by decide +kernel, rfl, by decide +kernel, by decide +kernel⟩
theorem ok_all_sheets (T : Txt K mg w C CH) : Cal P w K mg base 9 "all_sheets" (spAllSheets C) [] := by
  refine cal_of T.d_all_sheets sc_all_sheets (fun _ _ _ _ _ _ us hl => match us, hl with | [_, _], _ => rfl) (fun vs H Q E h => ?_) (fun f cdv A outer s H vs Q E hr h => ?_)
  · obtain ⟨_, _, _, _, _, _, rfl, _⟩ := h
    rfl
  · obtain ⟨l, kk, ls, ts, cols, cs, rfl, hl, it, hkk, ct, co, ch, hcs, h40, k⟩ := h
    refine ⟨_, pss_cons (ps_par (i := 2) (j := 3) rfl sc_all_sheets.nd rfl rfl (by decide) rfl rfl (pa_cons (pe_lst (pa_cons (pv 0) pa_nil)) (pa_cons (pe_callB call_len_seq rfl T.b_len PySem.boot_len (pa_cons (pv 0) pa_nil)) pa_nil)) (by rfl))
      (pss_cons (ps_for PassesOwn.never rfl (pi_enum (by rfl) T.b_enumerate (pa_cons (pv 1) pa_nil)) (pg_tup rfl (pgs_cons (pg_name (i := 4) sc_all_sheets.nd rfl (Or.inl rfl)) (pgs_cons (pg_name (i := 5) sc_all_sheets.nd rfl (Or.inl rfl)) pgs_nil)))
        (pss_cons (ps_if (PW.pt (pw_or (pt_not (pt_val (C8.pe_c (ok_is_change T) hr (by decide) rfl (pa_cons (pv 5) pa_nil))))
            (pw_or1 (pt_cmpR op_notN (C8.pe_c (ok_why_not T) hr (by decide) rfl (pa_cons (pe_ix ix_list (pv 2) (pe_un un_neg pe_int) (fun _ _ => rfl)) (pa_cons (pv 5) pa_nil))) pe_non (nomark _))))) (pss_one ps_never) pss_nil)
        (pss_cons (ps_expr (pe_bm PySem.F.plainAttrs_list PySem.F.slot_list_append PySem.F.type_list_append mt_append (pv 2) (pa_cons (C8.pe_c (ok_changed_columns T) hr (by decide) rfl (pa_cons (pe_ix ix_list (pv 2) (pe_un un_neg pe_int) (fun _ _ => rfl)) (pa_cons (pv 5) (pa_cons (pv 3) pa_nil)))) pa_nil)))
        (pss_one (ps_set (i := 3) sc_all_sheets.nd rfl (Or.inl rfl) (C8.pe_c (ok_next_number T) hr (by decide) rfl (pa_cons (pv 3) (pa_cons (pv 5) pa_nil))))))))
      (pss_cons (ps_if (pt_cmpR op_gt (pe_callB call_len_seq rfl T.b_len PySem.boot_len (pa_cons (pv 1) pa_nil)) (pGi T.c_MOST_CHANGES) (nomark _)) (pss_one ps_never) pss_nil)
      (pss_one (ps_ret (pe_tup (pa_cons (pv 2) (pa_cons (pv 3) pa_nil))))))), ?_⟩
    refine ⟨_, rfl, (by show 1 ≤ sizeLine; decide), fun sl hsl => ?_⟩
    have s1 : Same H (upd H sl (.lst [.ref l])) := Same.new hsl
    refine ⟨_, rfl, l, ls, rfl, .inl (SqL.of (s1 _ _ hl)), _, _, rfl, ?_⟩
    refine ⟨_, rfl, kk, ts, rfl, SqL.of (s1 _ _ hkk), ?_⟩
    refine for_it walk_enum (fun i σ H' => ∃ (a b : Option V) (n : Int) (rest : List V) (ll : Addr) (lls : List V), σ = [some (.ref l), some (.ref kk), some (.ref sl), some (.int n), a, b] ∧ 0 ≤ n ∧ Same H H' ∧ H' sl = some (.lst (.ref l :: rest)) ∧ rest.length ≤ i ∧
        (V.ref l :: rest)[rest.length]? = some (.ref ll) ∧ H' ll = some (.lst lls) ∧ ItemsAt (ColN C) (lastC cols (cs.take i)) lls H')
      ⟨_, _, _, [], l, ls, rfl, by omega, s1, upd_same, Nat.le_refl _, rfl, s1 _ _ hl, it.keep ColN.keep s1.keep⟩
      (fun i σ H' _ ⟨_, _, _, _, _, _, _, _, s2, _⟩ => SqL.of (s2 _ _ hkk)) ?_ ?_
    · rintro i x σ H2 H3 hi ⟨a, b, n, rest, ll, lls, rfl, hn, s2, hs2, hre, hlast, hll, itl⟩ ⟨t, x1, x2, rfl, ht, rfl, e1, e2⟩
      have e1 := Option.some.inj e1
      subst e1
      obtain ⟨c, hc, rc⟩ := ct.get e2
      have s3 : Same H2 (upd H2 t (.tup [.int (i : Nat), x2])) := Same.new ht
      obtain ⟨tc, rfl, htc⟩ := ChgT.keep _ _ _ _ (s2.trans s3).keep rc
      have hok := hcs c (List.mem_of_getElem? hc)
      have gd := chain_take ch hc
      have col := lastC_ok co (fun x hx => hcs x (List.mem_of_mem_take hx)) (chain_pre i ch)
      have hlst : atI (V.ref l :: rest) (-1) = some (.ref ll) := atI_last (by rw [List.length_cons]; exact hlast)
      refine ⟨t, _, rfl, SqT.of upd_same, rfl, _, _, rfl, _, _, rfl, rfl, ?_⟩
      refine ⟨_, rfl, tc, c, 3, rfl, htc, hok, by decide, fun H4 s4 => ⟨_, rfl, iteF ?_⟩⟩
      have s5 := s3.trans s4
      refine ⟨_, rfl, 1, rfl, sl, _, _, _, rfl, rfl, SqL.of (s5 _ _ hs2), hlst, _, rfl, ?_⟩
      have cc : CC C H4 ll tc lls (lastC cols (cs.take i)) c 3 := ⟨s5 _ _ hll, itl.keep ColN.keep s5.keep, s4 _ _ htc, hok, by decide, gd⟩
      refine ⟨ll, tc, lls, _, c, 3, rfl, cc, fun H5 s6 => ⟨rfl, _, rfl, ifF rfl ?_⟩⟩
      have s7 := s5.trans s6
      refine ⟨_, rfl, .inl ⟨rfl, _, SqL.of (s7 _ _ hs2)⟩, _, rfl, 1, rfl, sl, _, _, _, rfl, rfl, SqL.of (s7 _ _ hs2), hlst, _, rfl, _, rfl, ?_⟩
      refine ⟨ll, tc, n, lls, _, c, 3, rfl, hn, cc.same s6, col.each, col.most, fun H6 p us s8 hp hpu itp => ?_⟩
      have s9 := s7.trans s8
      have hps : p ≠ sl := (ne_of_none (s7 _ _ hs2) hp).symm
      refine ⟨sl, _, _, rfl, rfl, s9 _ _ hs2, small_lt (by rw [List.length_cons]; have := ct.len; omega), ?_⟩
      have kp : Keep H6 (upd H6 sl (.lst (V.ref l :: rest ++ [.ref p]))) := Keep.lst (s9 _ _ hs2)
      refine ⟨_, rfl, _, rfl, n, tc, c, rfl, kp _ _ trivial (s8 _ _ (s6 _ _ (s4 _ _ htc))), fun n' hn' => ?_⟩
      refine ⟨_, _, n', rest ++ [.ref p], p, us, rfl, by omega, Same.upd (s2.trans s9) hsl, upd_same, by rw [List.length_append, List.length_singleton]; omega, ?_, by rw [upd_ne hps]; exact hpu, ?_⟩
      · rw [List.length_append, List.length_singleton]
        show (rest ++ [V.ref p])[rest.length]? = some (.ref p)
        rw [List.getElem?_append_right (Nat.le_refl _), Nat.sub_self]
        rfl
      · rw [List.take_add_one, hc]
        show ItemsAt (ColN C) (lastC cols (cs.take i ++ [c])) us _
        rw [lastC_snoc]
        exact itp.keep ColN.keep kp
    · rintro σ H2 ⟨a, b, n, rest, ll, lls, rfl, hn, s2, hs2, hre, hlast, hll, itl⟩
      refine ⟨_, rfl, kk, ts, rfl, .inl (SqL.of (s2 _ _ hkk)), _, _, rfl, rfl, _, rfl, ifF (decide_eq_false (by have := ct.len; omega)) ?_⟩
      refine ⟨_, rfl, _, rfl, (by show 2 ≤ sizeLine; decide), fun t ht => ?_⟩
      have s3 : Same H2 (upd H2 t (.tup [.ref sl, .int n])) := Same.new ht
      exact k _ t sl rest n (s2.trans s3) upd_same (s3 _ _ hs2)
end
end Ed
/-! Editionrows: histories.py, second part: History. -/
namespace Ed
open PySem PySem.Spec PyProof.Rows L2
theorem atI_0 {α : Type} {v : α} {r : List α} : atI (v :: r) 0 = some v := by
  unfold atI ixN
  rw [if_pos (Int.le_refl 0), if_pos (by rw [List.length_cons]; omega)]
  rfl
/-- all but the one at p stand as they stood -/
def But (p : Addr) (H H' : Hp) : Prop := ∀ b o, b ≠ p → H b = some o → H' b = some o
theorem ColAt.but {C D p dx : Addr} {H H' : Hp} {v : V} {c : Col} {n : Int} (h : ColAt C H v c n) (hp : H p = some (.ins D dx [])) (k : But p H H') : ColAt C H' v c n := by
  obtain ⟨a, dy, e, h⟩ := h
  refine ⟨a, dy, e, k _ _ (fun q => ?_) h⟩
  rw [q, hp] at h
  have e := congrArg (fun fs : List (Str × V) => fs.lookup ("name" : Str)) (HO.ins.inj (Option.some.inj h)).2.2
  have e : (none : Option V) = (cf c n).lookup ("name" : Str) := e
  rw [cf_name] at e
  cases e
theorem ChgT.but {D p dx : Addr} {H H' : Hp} {v : V} {c : Chg} (h : ChgT c v H) (hp : H p = some (.ins D dx [])) (k : But p H H') : ChgT c v H' := by
  obtain ⟨a, e, h⟩ := h
  refine ⟨a, e, k _ _ (fun q => ?_) h⟩
  rw [q, hp] at h
  cases h
def hf (sl : Addr) (g : Int) (kt : Addr) : List (Str × V) := putF "kept_changes" (.ref kt) (putF "given" (.int g) (putF "sheets" (.ref sl) []))
theorem hf_sheets (sl : Addr) (g : Int) (kt : Addr) : (hf sl g kt).lookup ("sheets" : Str) = some (.ref sl) := by
  unfold hf
  rw [lookup_putF, if_neg (by decide +kernel), lookup_putF, if_neg (by decide +kernel), lookup_putF, if_pos rfl]
theorem hf_kept (sl : Addr) (g : Int) (kt : Addr) : (hf sl g kt).lookup ("kept_changes" : Str) = some (.ref kt) := by
  unfold hf
  rw [lookup_putF, if_pos rfl]
theorem hf_no (sl : Addr) (g : Int) (kt : Addr) {m : Str} (h : m ∉ [("sheets" : Str), "given", "kept_changes"]) : (hf sl g kt).lookup m = none := by
  simp only [List.mem_cons, List.not_mem_nil, or_false, not_or] at h
  obtain ⟨h1, h2, h3⟩ := h
  unfold hf
  rw [lookup_putF, if_neg h3, lookup_putF, if_neg h2, lookup_putF, if_neg h1]
  rfl
/-- a History at the address a -/
structure HistAt (C CH : Addr) (H : Hp) (a : Addr) (cols : List Col) (cs : List Chg) : Prop where
  ex : ∃ (dx sl : Addr) (rest : List V) (g : Int) (kt l : Addr) (ls ts : List V), H a = some (.ins CH dx (hf sl g kt)) ∧ H sl = some (.lst (.ref l :: rest)) ∧ H l = some (.lst ls) ∧ ColsNum C cols ls H ∧ H kt = some (.tup ts) ∧ ItemsAt ChgT cs ts H
theorem HistAt.same {C CH : Addr} {H H' : Hp} {a : Addr} {cols : List Col} {cs : List Chg} (h : HistAt C CH H a cols cs) (s : Same H H') : HistAt C CH H' a cols cs := by
  obtain ⟨dx, sl, rest, g, kt, l, ls, ts, h1, h2, h3, h4, h5, h6⟩ := h.ex
  exact ⟨dx, sl, rest, g, kt, l, ls, ts, s _ _ h1, s _ _ h2, s _ _ h3, h4.keep s.keep, s _ _ h5, h6.keep ChgT.keep s.keep⟩
section
variable {P : Program} {w : World} {K : PySem.W.Frag} {mg : Str → Option Value} {base : Heap} {C CH : Addr}
/-! ### History.__init__ -/
structure HArgs (C : Addr) (H : Hp) (l kk : Addr) (ls ts : List V) (cols : List Col) (cs : List Chg) : Prop where
  hl : H l = some (.lst ls)
  it : ItemsAt (ColN C) cols ls H
  hk : H kk = some (.lst ts)
  ct : ItemsAt ChgT cs ts H
  co : ColsOk cols
  ne : cols ≠ []
  ch : Chain cols cs
  ok : ∀ c ∈ cs, ChgOk 3 c
  len : cs.length ≤ 40
theorem HArgs.same {C : Addr} {H H' : Hp} {l kk : Addr} {ls ts : List V} {cols : List Col} {cs : List Chg} (h : HArgs C H l kk ls ts cols cs) (s : Same H H') : HArgs C H' l kk ls ts cols cs :=
  ⟨s _ _ h.hl, h.it.keep ColN.keep s.keep, s _ _ h.hk, h.ct.keep ChgT.keep s.keep, h.co, h.ne, h.ch, h.ok, h.len⟩
def spHistInit (C CH : Addr) : Sp := fun vs H Q _ => ∃ (p dx l kk : Addr) (ls ts : List V) (cols : List Col) (cs : List Chg), vs = [.ref p, .ref l, .ref kk] ∧ H p = some (.ins CH dx []) ∧ HArgs C H l kk ls ts cols cs ∧
  ∀ H', But p H H' → HistAt C CH H' p cols cs → Q .non H'
theorem sc_History_init : FnScope ["self", "columns", "changes", "first"] ["self", "columns", "changes"] (defScope s_History_init) := ⟨rfl, rfl, rfl, by decide +kernel, rfl, by decide +kernel, by decide +kernel⟩
theorem ok_History_init (T : Txt K mg w C CH) {f : Addr} {fd : FuncData} {dvs : List V} (F : FunD K "__init__" "History.__init__" (defArgs s_History_init) (defBody s_History_init) (defScope s_History_init) dvs [] f fd) :
    FnOk P w K mg base CX0 10 f fd ["self", "columns", "changes"] (spHistInit C CH) := by
  refine fnd_of F sc_History_init (fun vs H Q E h => ?_) (fun cdv A outer s H vs Q E hr h => ?_)
  · obtain ⟨p, dx, l, kk, ls, ts, cols, cs, rfl, _⟩ := h
    rfl
  · obtain ⟨p, dx, l, kk, ls, ts, cols, cs, rfl, hp, hA, k⟩ := h
    refine ⟨_, pss_cons (ps_set (i := 3) sc_History_init.nd rfl (Or.inl rfl) (C8.pe_c (ok_checked_columns T) hr (by decide) rfl (pa_cons (pv 1) pa_nil)))
      (pss_cons (ps_if (pt_not (pt_val (pe_callB call_isiT rfl T.b_isinstance boot_isinstance (pa_cons (pv 2) (pa_cons (pe_tup (pa_cons (pTy T.b_list boot_list) (pa_cons (pTy T.b_tuple boot_tuple) pa_nil))) pa_nil))))) (pss_one ps_never) pss_nil)
      (pss_cons (ps_asg (C8.pe_c (ok_all_sheets T) hr (by decide) rfl (pa_cons (pv 3) (pa_cons (pv 2) pa_nil))) (pg_tup rfl (pgs_cons (pg_fld (pv 0)) (pgs_cons (pg_fld (pv 0)) pgs_nil))))
      (pss_one (ps_fld (pv 0) (pe_callTy call_tuple_of rfl T.b_tuple boot_tuple (pa_cons (pv 2) pa_nil)) rfl)))), ?_⟩
    refine ⟨_, rfl, l, ls, cols, rfl, hA.hl, hA.it, hA.co, hA.ne, fun H1 p1 us s1 hn1 hp1 cn => ?_⟩
    have hA1 := hA.same s1
    refine ⟨_, rfl, (by show 2 ≤ sizeLine; decide), fun p2 hp2 => ?_⟩
    have s2 : Same H1 (upd H1 p2 (.tup [.ty "list", .ty "tuple"])) := Same.new hp2
    refine ⟨_, p2, _, _, _, _, rfl, upd_same, cls_lt, .base (.lst (s2 _ _ hA1.hk)), kit_lt, _, rfl, iteF ?_⟩
    refine ⟨_, rfl, _, rfl, p1, kk, us, ts, cols, cs, rfl, s2 _ _ hp1, cn.it.keep ColN.keep s2.keep, s2 _ _ hA1.hk, hA1.ct.keep ChgT.keep s2.keep, hA.co, hA.ch, hA.ok, hA.len, fun H3 t sl rest g s3 ht hsl => ?_⟩
    have s13 := s1.trans (s2.trans s3)
    have hp3 := s13 _ _ hp
    have hsp : sl ≠ p := fun q => by
      rw [q, hp3] at hsl
      cases hsl
    have hkp : kk ≠ p := fun q => by
      have e := hA.hk
      rw [q, hp] at e
      cases e
    have hpp : p1 ≠ p := (ne_of_none (s1 _ _ hp |> fun _ => hp) hn1).symm
    refine ⟨t, _, rfl, SqT.of ht, rfl, _, _, rfl, ?_⟩
    refine ⟨_, rfl, p, CH, dx, _, rfl, hp3, T.cl_History, T.n_History_sheets, (by show 0 < 1000; decide), ?_⟩
    refine ⟨_, _, rfl, _, rfl, p, CH, dx, _, rfl, upd_same, T.cl_History, T.n_History_given, lt_1000 (lt_putF nil_len), rfl, ?_⟩
    refine ⟨_, rfl, kk, ts, rfl, .inl ⟨SqL.of ?_, fun l4 hl4 => ?_⟩⟩
    · rw [upd_ne hkp, upd_ne hkp]
      exact (s2.trans s3) _ _ hA1.hk
    · have hlp : p ≠ l4 := by
        refine ne_of_none (H := upd (upd H3 p (.ins CH dx (putF "sheets" (.ref sl) []))) p (.ins CH dx (putF "given" (.int g) (putF "sheets" (.ref sl) [])))) upd_same hl4
      have hl3 : H3 l4 = none := by rw [upd_ne hlp.symm, upd_ne hlp.symm] at hl4; exact hl4
      refine ⟨_, rfl, p, CH, dx, _, rfl, by rw [upd_ne hlp]; exact upd_same, T.cl_History, T.n_History_kept_changes, lt_1000 (lt_putF (lt_putF nil_len)), ?_⟩
      have bt : But p H3 (upd (upd (upd (upd H3 p (.ins CH dx (putF "sheets" (.ref sl) []))) p (.ins CH dx (putF "given" (.int g) (putF "sheets" (.ref sl) [])))) l4 (.tup ts)) p (.ins CH dx (hf sl g l4))) := fun b o hb e => by
        rw [upd_ne hb, upd_ne (ne_of_none e hl3), upd_ne hb, upd_ne hb]
        exact e
      refine k _ (fun b o hb e => bt b o hb (s13 _ _ e)) ⟨dx, sl, rest, g, l4, p1, us, ts, upd_same, bt _ _ hsp hsl, bt _ _ hpp ((s2.trans s3) _ _ hp1), ⟨cn.len, fun i c v h1 h2 => ((cn.each i c v h1 h2).keep (s2.trans s3).keep).but hp3 bt⟩, by rw [upd_ne hlp.symm]; exact upd_same, ⟨hA.ct.len, fun i c v h1 h2 => ?_⟩⟩
      exact ChgT.but (ChgT.keep _ _ _ _ s13.keep (hA.ct.each i c v h1 h2)) hp3 bt
theorem hist_fin {H : Hp} {l kk : Addr} {ls ts : List V} {cols : List Col} {cs : List Chg} {R : Addr → Hp → Prop} (hA : HArgs C H l kk ls ts cols cs) (k : ∀ H3 a, Same H H3 → H a = none → HistAt C CH H3 a cols cs → R a H3) :
    ∀ x dx, H x = none → H dx = none → dx ≠ x → spHistInit C CH (.ref x :: ([V.ref l, .ref kk] ++ [])) (upd (upd H dx (.own x)) x (.ins CH dx [])) (fun v H2 => v = .non ∧ R x H2) E0 := fun x dx nx nd hd => by
  have nx2 : (upd H dx (.own x)) x = none := by rw [upd_ne hd.symm]; exact nx
  have s : Same H (upd (upd H dx (.own x)) x (.ins CH dx [])) := (Same.new nd).trans (Same.new nx2)
  exact ⟨x, dx, l, kk, ls, ts, cols, cs, rfl, upd_same, hA.same s, fun H' hk h' => ⟨rfl, k H' x (fun b o e => hk b o (ne_of_none e nx) (s _ _ e)) nx h'⟩⟩
theorem pe_hist {X : Cx} (T : Txt X.K X.mg X.w C CH) {j : Nat} (hr : Room j X.A) (hj : 11 ≤ j) {p pos : Pos} {e : Expr} {es : List Expr} {t : TA} (ha : PA X (e :: es) t)
    (hg : Gl X "History" := by rfl) (he : starEach (e :: es) X.env = (false, eval e X.env) :: starEach es X.env := by rfl) (hpl : (backTo pos (starEach es X.env)).any (·.1) = false := by rfl) :
    PE X (.Call (.Name "History" p) (e :: es) [] pos) (tMake CH (spHistInit C CH) [] E0 t) := by
  obtain ⟨f, fd, dv, M, F⟩ := T.m_History_init
  have G := ok_History_init (P := X.prog) (base := X.base) T F
  obtain ⟨ds, hd, hb⟩ := F.binds1 (ps := ["self", "columns", "changes"]) 3 1 (List.cons_ne_nil _ _) rfl (fun T0 kV doc pm an cdv ct us its h1 h2 => match us, its, h1, h2 with | [_, _, _], [_], _, _ => ⟨_, rfl, rfl⟩)
  exact pe_make M G (hr.mono hj) hg T.g_History hb hd pass0 ha (by decide) he hpl

/-! ### History.__eq__ of equal ones -/
def eqHist (C CH : Addr) : Addr → Addr → Hp → Prop := fun a b H => ∃ cols cs, HistAt C CH H a cols cs ∧ HistAt C CH H b cols cs
theorem mon_eqCol : Mon (DIns C (eqCol C)) := mon_ins fun a b H H' e ⟨c, n, h1, h2⟩ => ⟨c, n, h1.keep (fun b o _ q => e b o q), h2.keep (fun b o _ q => e b o q)⟩
theorem chg_flat (c : Chg) {H : Hp} : Prs DFlat c.vals c.vals H := by
  refine ⟨rfl, fun i x y h1 h2 => ?_⟩
  rw [h1] at h2
  cases h2
  have hm := List.mem_of_getElem? h1
  have hs : ∀ s : Str, DFlat (.str s) (.str s) H := fun s => ⟨rfl, rfl, beq_self_eq_true s⟩
  have hi : ∀ s : Int, DFlat (.int s) (.int s) H := fun s => ⟨rfl, rfl, beq_self_eq_true s⟩
  have hv : ∀ d : Option Int, DFlat (vO d) (vO d) H := fun d => by
    cases d with
    | none => exact ⟨rfl, rfl, rfl⟩
    | some i => exact hi i
  cases c <;> (simp only [Chg.vals, List.mem_cons, List.not_mem_nil, or_false] at hm)
  · rcases hm with rfl | rfl | rfl | rfl
    · exact hs _
    · exact hs _
    · exact hi _
    · exact hv _
  · rcases hm with rfl | rfl
    · exact hs _
    · exact hs _
  · rcases hm with rfl | rfl | rfl
    · exact hs _
    · exact hs _
    · exact hs _
  · rcases hm with rfl | rfl | rfl
    · exact hs _
    · exact hs _
    · exact hv _
  · rcases hm with rfl | rfl | rfl | rfl
    · exact hs _
    · exact hs _
    · exact hi _
    · exact hs _
  · rcases hm with rfl | rfl | rfl
    · exact hs _
    · exact hs _
    · exact hi _
theorem sc_History_eq : FnScope ["self", "other"] ["self", "other"] (defScope s_History_eq) := ⟨rfl, rfl, rfl, by decide +kernel, rfl, by decide +kernel, by decide +kernel⟩
theorem ok_History_eq (T : Txt K mg w C CH) {f : Addr} {fd : FuncData} (F : FunD K "__eq__" "History.__eq__" (defArgs s_History_eq) (defBody s_History_eq) (defScope s_History_eq) [] [] f fd) :
    FnOk P w K mg base CX0 3 f fd ["self", "other"] (spEq (eqHist C CH)) := by
  obtain ⟨fe, fde, ⟨fnd, isf⟩, FE⟩ := T.m_Column_eq
  have GE := ok_Column_eq (P := P) (base := base) T FE
  have BE : Binds K fde ["self", "other"] [] := FE.bindsN fun _ _ _ _ _ _ us hl => match us, hl with | [_, _], _ => rfl
  refine fnd_of F sc_History_eq (fun vs H Q E h => ?_) (fun cdv A outer s H vs Q E hr h => ?_)
  · obtain ⟨a, b, rfl, _⟩ := h
    rfl
  · obtain ⟨a, b, rfl, ⟨cols, cs, hA, hB⟩, k⟩ := h
    refine ⟨_, pss_cons (ps_if (pt_not (pt_val (pe_callB (C8.call_isC T.is_History) rfl T.b_isinstance boot_isinstance (pa_cons (pv 1) (pa_cons (pe_glob (v := .ref CH) rfl T.g_History rfl) pa_nil))))) (pss_one (ps_ret pe_bl)) pss_nil)
      (pss_one (ps_ret (pe_and (pe_cmpR (op_eqG (rcG_list mon_eqCol (eqG_ins (E := E0) GE fnd isf BE pass0)) hr) (pe_ix ix_list (pe_fld (pv 0) rfl) pe_int (fun _ _ => rfl)) (pe_ix ix_list (pe_fld (pv 1) rfl) pe_int (fun _ _ => rfl)) (nomark _))
        (pe_one (pe_cmpR (op_eqG (rcG_tup (mon_tup mon_flat) (eqG_tup mon_flat eqG_flat)) hr) (pe_fld (pv 0) rfl) (pe_fld (pv 1) rfl) (nomark _)))))), ?_⟩
    obtain ⟨dx, sl, rest, g, kt, l, ls, ts, a1, a2, a3, a4, a5, a6⟩ := hA.ex
    obtain ⟨dy, sl', rest', g', kt', l', ls', ts', b1, b2, b3, b4, b5, b6⟩ := hB.ex
    refine ⟨_, rfl, b, dy, _, rfl, b1, _, rfl, iteF ?_⟩
    refine ⟨_, rfl, a, CH, dx, _, _, rfl, a1, T.cl_History, T.n_History_sheets, hf_sheets _ _ _, sl, _, _, _, rfl, rfl, SqL.of a2, atI_0, ?_⟩
    refine ⟨_, rfl, b, CH, dy, _, _, rfl, b1, T.cl_History, T.n_History_sheets, hf_sheets _ _ _, sl', _, _, _, rfl, rfl, SqL.of b2, atI_0, ?_⟩
    refine ⟨⟨l, l', ls, ls', rfl, rfl, a3, b3, a4.len.trans b4.len.symm, fun i x y h1 h2 => ?_⟩, fun H1 s1 => ⟨_, rfl, iteT ?_⟩⟩
    · have hi : i < cols.length := by
        have := (List.getElem?_eq_some_iff.mp h1).1
        rw [a4.len] at this
        exact this
      obtain ⟨p, dp, e1, q1⟩ := a4.each i _ x (List.getElem?_eq_getElem hi) h1
      obtain ⟨q, dq, e2, q2⟩ := b4.each i _ y (List.getElem?_eq_getElem hi) h2
      exact ⟨p, q, dp, dq, _, _, e1, e2, q1, q2, _, _, ⟨p, dp, rfl, q1⟩, ⟨q, dq, rfl, q2⟩⟩
    · refine ⟨_, rfl, a, CH, dx, _, _, rfl, s1 _ _ a1, T.cl_History, T.n_History_kept_changes, hf_kept _ _ _, _, rfl, b, CH, dy, _, _, rfl, s1 _ _ b1, T.cl_History, T.n_History_kept_changes, hf_kept _ _ _, ?_⟩
      refine ⟨⟨kt, kt', ts, ts', rfl, rfl, SqT.of (s1 _ _ a5), SqT.of (s1 _ _ b5), a6.len.trans b6.len.symm, fun i x y h1 h2 => ?_⟩, fun H2 s2 => k H2 (Same.trans s1 s2)⟩
      obtain ⟨c, hc, p, e1, q1⟩ := a6.get h1
      obtain ⟨c2, hc2, q, e2, q2⟩ := b6.get h2
      rw [hc] at hc2
      cases hc2
      exact ⟨p, q, _, _, e1, e2, SqT.of (s1 _ _ q1), SqT.of (s1 _ _ q2), chg_flat c⟩

/-! ### first_columns, changes_told -/
def spFirstCols (C CH : Addr) : Sp := fun vs H Q _ => ∃ (a : Addr) (cols : List Col) (cs : List Chg), vs = [.ref a] ∧ HistAt C CH H a cols cs ∧ ∀ H' p ls, Same H H' → H' p = some (.lst ls) → ColsNum C cols ls H' → Q (.ref p) H'
theorem sc_first_columns : FnScope ["self"] ["self"] (defScope s_History_first_columns) := ⟨rfl, rfl, rfl, by decide +kernel, rfl, by decide +kernel, by decide +kernel⟩
theorem ok_first_columns (T : Txt K mg w C CH) {f : Addr} {fd : FuncData} (F : FunD K "first_columns" "History.first_columns" (defArgs s_History_first_columns) (defBody s_History_first_columns) (defScope s_History_first_columns) [] [] f fd) :
    FnOk P w K mg base CX0 1 f fd ["self"] (spFirstCols C CH) := by
  refine fnd_of F sc_first_columns (fun vs H Q E h => ?_) (fun cdv A outer s H vs Q E hr h => ?_)
  · obtain ⟨a, _, _, rfl, _⟩ := h
    rfl
  · obtain ⟨a, cols, cs, rfl, hA, k⟩ := h
    refine ⟨_, pss_one (ps_ret (pe_callTy call_list_of rfl T.b_list boot_list (pa_cons (pe_ix ix_list (pe_fld (pv 0) rfl) pe_int (fun _ _ => rfl)) pa_nil))), ?_⟩
    obtain ⟨dx, sl, rest, g, kt, l, ls, ts, a1, a2, a3, a4, a5, a6⟩ := hA.ex
    refine ⟨_, rfl, a, CH, dx, _, _, rfl, a1, T.cl_History, T.n_History_sheets, hf_sheets _ _ _, sl, _, _, _, rfl, rfl, SqL.of a2, atI_0, ?_⟩
    refine ⟨l, ls, rfl, .inl (SqL.of a3), fun p hp => k _ p ls (Same.new hp) upd_same (a4.keep (Keep.new hp))⟩
def spChgsTold (C CH : Addr) : Sp := fun vs H Q _ => ∃ (a : Addr) (cols : List Col) (cs : List Chg), vs = [.ref a] ∧ HistAt C CH H a cols cs ∧ ∀ H' p ts, Same H H' → H' p = some (.lst ts) → ItemsAt ChgT cs ts H' → Q (.ref p) H'
theorem sc_changes_told : FnScope ["self"] ["self"] (defScope s_History_changes_told) := ⟨rfl, rfl, rfl, by decide +kernel, rfl, by decide +kernel, by decide +kernel⟩
theorem ok_changes_told (T : Txt K mg w C CH) {f : Addr} {fd : FuncData} (F : FunD K "changes_told" "History.changes_told" (defArgs s_History_changes_told) (defBody s_History_changes_told) (defScope s_History_changes_told) [] [] f fd) :
    FnOk P w K mg base CX0 1 f fd ["self"] (spChgsTold C CH) := by
  refine fnd_of F sc_changes_told (fun vs H Q E h => ?_) (fun cdv A outer s H vs Q E hr h => ?_)
  · obtain ⟨a, _, _, rfl, _⟩ := h
    rfl
  · obtain ⟨a, cols, cs, rfl, hA, k⟩ := h
    refine ⟨_, pss_one (ps_ret (pe_callTy call_list_of rfl T.b_list boot_list (pa_cons (pe_fld (pv 0) rfl) pa_nil))), ?_⟩
    obtain ⟨dx, sl, rest, g, kt, l, ls, ts, a1, a2, a3, a4, a5, a6⟩ := hA.ex
    refine ⟨_, rfl, a, CH, dx, _, _, rfl, a1, T.cl_History, T.n_History_kept_changes, hf_kept _ _ _, ?_⟩
    refine ⟨kt, ts, rfl, .inr (SqT.of a5), fun p hp => k _ p ts (Same.new hp) upd_same (a6.keep ChgT.keep (Keep.new hp))⟩
theorem met_first_columns (T : Txt K mg w C CH) : C8.Met P w K mg base 1 CH "first_columns" (spFirstCols C CH) [] := by
  obtain ⟨f, fd, M, F⟩ := T.m_History_first_columns
  exact ⟨f, fd, _, [], T.cl_History, M, ok_first_columns T F, F.bindsN fun _ _ _ _ _ _ us hl => match us, hl with | [_], _ => rfl, .nil⟩
theorem met_changes_told (T : Txt K mg w C CH) : C8.Met P w K mg base 1 CH "changes_told" (spChgsTold C CH) [] := by
  obtain ⟨f, fd, M, F⟩ := T.m_History_changes_told
  exact ⟨f, fd, _, [], T.cl_History, M, ok_changes_told T F, F.bindsN fun _ _ _ _ _ _ us hl => match us, hl with | [_], _ => rfl, .nil⟩
end
end Ed
/-! Editionrows: texts.py, first part: numerals, values, what is written; the law's own writers. -/
namespace Ed
open PySem PySem.Spec PyProof.Rows L2
theorem figs {c : Nat} (h0 : 48 ≤ c) (h1 : c ≤ 57) : c ∈ TL.tl ("0123456789" : Str) := by
  have e : TL.tl ("0123456789" : Str) = [48, 49, 50, 51, 52, 53, 54, 55, 56, 57] := by decide +kernel
  rw [e]
  have : c = 48 ∨ c = 49 ∨ c = 50 ∨ c = 51 ∨ c = 52 ∨ c = 53 ∨ c = 54 ∨ c = 55 ∨ c = 56 ∨ c = 57 := by omega
  rcases this with rfl | rfl | rfl | rfl | rfl | rfl | rfl | rfl | rfl | rfl <;> simp
theorem sign_ne0 {c : Nat} (h : c ≠ 48) : V.str ⟨#[c]⟩ ≠ V.str ("0" : Str) := fun e => h (by
  have e1 := congrArg TL.tl (V.str.inj e)
  have e2 : TL.tl ("0" : Str) = [48] := by decide +kernel
  rw [e2] at e1
  have e3 : [c] = [48] := e1
  exact (List.cons.inj e3).1)
theorem slen (a b : Str) : (a ++ b).length = a.length + b.length := Str.length_append a b
theorem vt_num {d : Option Int} (h : ValO 99 d) : d = none ∨ ∃ i, d = some i ∧ 0 ≤ i ∧ i ≤ 99 := by
  cases d with
  | none => exact .inl rfl
  | some i => exact .inr ⟨i, rfl, h i rfl⟩
theorem ValO.mono {m n : Int} {d : Option Int} (h : ValO m d) (hm : m ≤ n) : ValO n d := fun i e => by
  have := h i e
  omega
/-- what is told stands at d -/
def tkv (t : List (Str × Option Int)) : List (Key × V) := t.map fun p => ((Sum.inr p.1 : Key), vO p.2)
theorem tkv_get : ∀ {t : List (Str × Option Int)} {p : Str × Option Int}, (t.map (·.1)).Nodup → p ∈ t → valV (tkv t) (Sum.inr p.1 : Key) = some (vO p.2)
  | [], _, _, h => by cases h
  | q :: r, p, nd, h => by
    rw [List.map_cons] at nd
    obtain ⟨n1, n2⟩ := List.nodup_cons.mp nd
    rcases List.mem_cons.mp h with rfl | h
    · exact valV_pos (p := ((Sum.inr p.1 : Key), vO p.2)) rfl
    · have hne : ¬ (Sum.inr q.1 : Key) = Sum.inr p.1 := fun e => n1 (List.mem_map.mpr ⟨p, h, (Sum.inr.inj e).symm⟩)
      exact (valV_neg (p := ((Sum.inr q.1 : Key), vO q.2)) hne).trans (tkv_get n2 h)
def partT (p : Str × Option Int) : Str := p.1 ++ (" " : Str) ++ vtS p.2
theorem vt_len {d : Option Int} (h : ValO 99 d) : (vtS d).length ≤ 8 := (wd_vt h (by decide)).len
theorem partT_len {p : Str × Option Int} (h : NameOk p.1 ∧ ValO 99 p.2) : (partT p).length ≤ 17 := by
  unfold partT
  rw [slen, slen, sp_len]
  have := h.1.len
  have := vt_len h.2
  omega
theorem parts_len (c : Chg) : c.vals.length = c.words.length := (List.length_map ..).symm
section
variable {P : Program} {w : World} {K : PySem.W.Frag} {mg : Str → Option Value} {base : Heap} {C CH : Addr}
/-! ### numerals -/
def spNumeral : Sp := fun vs H Q _ => ∃ s : Str, vs = [.str s, .int 2] ∧ NumOk s ∧ ∀ H', Same H H' → Q (.bl true) H'
theorem sc_is_numeral : FnScope ["word", "most", "sign"] ["word", "most"] (defScope s_is_numeral) := ⟨rfl, rfl, rfl, by decide +kernel, rfl, by decide +kernel, by decide +kernel⟩
theorem ok_is_numeral (T : Txt K mg w C CH) : Cal P w K mg base 1 "is_numeral" spNumeral [] := by
  refine cal_of T.d_is_numeral sc_is_numeral (fun _ _ _ _ _ _ us hl => match us, hl with | [_, _], _ => rfl) (fun vs H Q E h => ?_) (fun f cdv A outer s H vs Q E hr h => ?_)
  · obtain ⟨i, rfl, _⟩ := h
    rfl
  · obtain ⟨n, rfl, hn, k⟩ := h
    refine ⟨_, pss_cons (ps_if (PW.pt (pw_or (pt_not (pt_chain op_le op_le pe_int (pe_callB call_len_str rfl T.b_len PySem.boot_len (pa_cons (pv 0) pa_nil)) (pv 1)))
        (pw_or1 (pt_not (pt_val (pe_callB (cr_all rfl) rfl T.b_all boot_all (pa_cons (pe_lc (own := [("sign", 2)]) (g := gName 2) (tt := tYes) rfl sc_is_numeral.nd (pi_str (pv 0)) (blkOk_by (own := [("sign", 2)]) (N := ["word", "most", "sign"]) (sc := defScope s_is_numeral) (by decide +kernel))
        (fun _ _ _ _ _ => pg_name (i := 2) sc_is_numeral.nd rfl (Or.inl rfl)) (fun _ _ _ _ _ => pts_nil) (fun _ _ _ _ _ => pe_cmpR op_in_sign (pv 2) (pGs T.c_FIGURES) (by rfl))) pa_nil))))))) (pss_one (ps_ret pe_bl)) pss_nil)
      (pss_one (ps_ret (pe_or (pe_cmpR op_eq (pe_callB call_len_str rfl T.b_len PySem.boot_len (pa_cons (pv 0) pa_nil)) pe_int (nomark _)) (pe_one (pe_cmpR op_ne (pe_ix ix_str (pv 0) pe_int (fun _ _ => rfl)) pe_str (nomark _)))))), ?_⟩
    have hl := hn.len
    refine ⟨_, rfl, n, rfl, small_le (by omega), _, _, rfl, rfl, _, rfl, ?_⟩
    rw [if_pos (decide_eq_true (by omega))]
    refine ⟨_, rfl, _, _, rfl, rfl, _, rfl, ?_⟩
    refine ifF (show (!decide ((n.length : Int) ≤ 2)) = false by rw [decide_eq_true (by omega)]; rfl) ?_
    refine ⟨_, rfl, n, rfl, fun D hD => ?_⟩
    have en : (List.replicate n.length (V.bl true)).length = n.cps.size := List.length_replicate
    refine lc_vals (ys := List.replicate n.length (V.bl true)) (by rw [en]; exact walk_str) (by rw [en]; have : n.cps.size = n.length := rfl; omega) hD (fun _ _ => trivial) (fun i x H2 H' y Kt hy s1 e kt => ?_) (fun H2 s1 hD2 => ?_)
    · obtain ⟨rfl, c, hc, rfl⟩ := e
      refine ⟨rfl, ?_⟩
      refine ⟨_, rfl, c, _, rfl, rfl, ?_⟩
      have hm : c ∈ TL.tl n := by
        rw [← Array.getElem?_toList] at hc
        exact List.mem_of_getElem? hc
      have ey : y = .bl true := (List.mem_replicate.mp (List.mem_of_getElem? hy)).2
      rw [ey] at kt
      have hf := hn.fig c hm
      exact qb (Q := Kt) (decide_eq_true (figs hf.1 hf.2)) (kt _ (Same.refl _))
    · refine ⟨_, List.replicate n.length true, rfl, SqL.of (by rw [hD2, List.map_replicate]), _, rfl, ?_⟩
      refine ifF (show (!(List.replicate n.length true).all id) = false by simp) ?_
      refine ⟨_, rfl, n, rfl, small_le (by omega), rfl, _, rfl, ?_⟩
      by_cases h1 : n.length = 1
      · exact ifT (decide_eq_true (by rw [h1]; rfl)) (k H2 s1)
      · obtain ⟨c, hc, hne⟩ := hn.first h1
        refine ifF (decide_eq_false fun e => h1 (by have := V.int.inj e; omega)) ?_
        refine ⟨_, rfl, n, 0, c, rfl, rfl, small_le (by omega), ?_, rfl, ?_⟩
        · rw [← Array.getElem?_toList] at hc
          cases e : n.cps.toList with
          | nil => rw [e] at hc; cases hc
          | cons x r =>
            rw [e] at hc
            have hc : some x = some c := hc
            rw [Option.some.inj hc]
            exact atI_0
        · exact qb (Q := Q) (by rw [decide_eq_false (sign_ne0 hne)]; rfl) (k H2 s1)
/-! ### values -/
def spValueWord : Sp := fun vs H Q _ => ∃ d : Option Int, vs = [.str (vtS d)] ∧ ValO 99 d ∧ ∀ H', Same H H' → Q (.bl true) H'
theorem sc_is_value_word : FnScope ["word"] ["word"] (defScope s_is_value_word) := ⟨rfl, rfl, rfl, by decide +kernel, rfl, by decide +kernel, by decide +kernel⟩
theorem ok_is_value_word (T : Txt K mg w C CH) : Cal P w K mg base 2 "is_value_word" spValueWord [] := by
  refine cal_of T.d_is_value_word sc_is_value_word (fun _ _ _ _ _ _ us hl => match us, hl with | [_], _ => rfl) (fun vs H Q E h => ?_) (fun f cdv A outer s H vs Q E hr h => ?_)
  · obtain ⟨i, rfl, _⟩ := h
    rfl
  · obtain ⟨d, rfl, hd, k⟩ := h
    refine ⟨_, pss_one (ps_ret (pe_or (pe_cmpR op_eq (pv 0) (pGs T.c_NOTHING) (nomark _)) (pe_one (C8.pe_c (ok_is_numeral T) hr (by decide) rfl (pa_cons (pv 0) (pa_cons pe_int pa_nil)))))), ?_⟩
    rcases vt_num hd with rfl | ⟨i, rfl, h0, h1⟩
    · exact ⟨_, rfl, rfl, _, rfl, ifT (decide_eq_true rfl) (k H (Same.refl _))⟩
    · exact ⟨_, rfl, rfl, _, rfl, ifF (decide_eq_false (ksn (num_dash h0 h1))) ⟨_, rfl, _, rfl, num_ok h0 h1, k⟩⟩
def spVt : Sp := fun vs H Q _ => ∃ d : Option Int, vs = [vO d] ∧ ValO 99 d ∧ Q (.str (vtS d)) H
theorem sc_value_text : FnScope ["value"] ["value"] (defScope s_value_text) := ⟨rfl, rfl, rfl, by decide +kernel, rfl, by decide +kernel, by decide +kernel⟩
theorem ok_value_text (T : Txt K mg w C CH) : Cal P w K mg base 1 "value_text" spVt [] := by
  refine cal_of T.d_value_text sc_value_text (fun _ _ _ _ _ _ us hl => match us, hl with | [_], _ => rfl) (fun vs H Q E h => ?_) (fun f cdv A outer s H vs Q E hr h => ?_)
  · obtain ⟨i, rfl, _⟩ := h
    rfl
  · obtain ⟨d, rfl, hd, k⟩ := h
    refine ⟨_, pss_one (ps_ret (pe_ifExp (pt_cmpR op_isN (pv 0) pe_non (nomark _)) (pGs T.c_NOTHING) (pe_callTy call_str_int rfl T.b_str boot_str (pa_cons (pv 0) pa_nil)))), ?_⟩
    rcases vt_num hd with rfl | ⟨i, rfl, h0, h1⟩
    · exact ⟨_, rfl, rfl, _, rfl, ifT rfl k⟩
    · exact ⟨_, rfl, rfl, _, rfl, ifF rfl ⟨_, rfl, i, rfl, num_log h0 h1, k⟩⟩
theorem sc_law_vt : FnScope ["_law_value_here"] ["_law_value_here"] (defScope s_law_vt) := ⟨rfl, rfl, rfl, by decide +kernel, rfl, by decide +kernel, by decide +kernel⟩
theorem ok_law_vt (T : Txt K mg w C CH) : Cal P w K mg base 1 "_law_vt" spVt [] := by
  refine cal_of T.d_law_vt sc_law_vt (fun _ _ _ _ _ _ us hl => match us, hl with | [_], _ => rfl) (fun vs H Q E h => ?_) (fun f cdv A outer s H vs Q E hr h => ?_)
  · obtain ⟨i, rfl, _⟩ := h
    rfl
  · obtain ⟨d, rfl, hd, k⟩ := h
    refine ⟨_, pss_one (ps_ret (pe_ifExp (pt_cmpR op_isN (pv 0) pe_non (nomark _)) pe_str (pe_callTy call_str_int rfl T.b_str boot_str (pa_cons (pv 0) pa_nil)))), ?_⟩
    rcases vt_num hd with rfl | ⟨i, rfl, h0, h1⟩
    · exact ⟨_, rfl, rfl, _, rfl, ifT rfl k⟩
    · exact ⟨_, rfl, rfl, _, rfl, ifF rfl ⟨_, rfl, i, rfl, num_log h0 h1, k⟩⟩
def spValueIn : Sp := fun vs H Q _ => ∃ d : Option Int, vs = [.str (vtS d)] ∧ ValO 99 d ∧ Q (vO d) H
theorem sc_value_in : FnScope ["word"] ["word"] (defScope s_value_in) := ⟨rfl, rfl, rfl, by decide +kernel, rfl, by decide +kernel, by decide +kernel⟩
theorem num_len {i : Int} (h0 : 0 ≤ i) (h1 : i ≤ 99) : (numS i).length ≤ 640 := by
  have := (num_ok h0 h1).len
  omega
theorem ok_value_in (T : Txt K mg w C CH) : Cal P w K mg base 1 "value_in" spValueIn [] := by
  refine cal_of T.d_value_in sc_value_in (fun _ _ _ _ _ _ us hl => match us, hl with | [_], _ => rfl) (fun vs H Q E h => ?_) (fun f cdv A outer s H vs Q E hr h => ?_)
  · obtain ⟨i, rfl, _⟩ := h
    rfl
  · obtain ⟨d, rfl, hd, k⟩ := h
    refine ⟨_, pss_one (ps_ret (pe_ifExp (pt_cmpR op_eq (pv 0) (pGs T.c_NOTHING) (nomark _)) pe_non (pe_callTy call_int_str rfl T.b_int boot_int (pa_cons (pv 0) pa_nil)))), ?_⟩
    rcases vt_num hd with rfl | ⟨i, rfl, h0, h1⟩
    · exact ⟨_, rfl, rfl, _, rfl, ifT (decide_eq_true rfl) k⟩
    · exact ⟨_, rfl, rfl, _, rfl, ifF (decide_eq_false (ksn (num_dash h0 h1))) ⟨_, rfl, _, i, rfl, num_int h0 h1, num_len h0 h1, k⟩⟩
def spGreatest : Sp := fun vs H Q _ => ∃ i : Int, vs = [.str (numS i)] ∧ 1 ≤ i ∧ i ≤ 99 ∧ ∀ H', Same H H' → Q (.bl true) H'
theorem sc_is_greatest_word : FnScope ["word"] ["word"] (defScope s_is_greatest_word) := ⟨rfl, rfl, rfl, by decide +kernel, rfl, by decide +kernel, by decide +kernel⟩
theorem ok_is_greatest_word (T : Txt K mg w C CH) : Cal P w K mg base 2 "is_greatest_word" spGreatest [] := by
  refine cal_of T.d_is_greatest_word sc_is_greatest_word (fun _ _ _ _ _ _ us hl => match us, hl with | [_], _ => rfl) (fun vs H Q E h => ?_) (fun f cdv A outer s H vs Q E hr h => ?_)
  · obtain ⟨i, rfl, _⟩ := h
    rfl
  · obtain ⟨i, rfl, h0, h1, k⟩ := h
    refine ⟨_, pss_one (ps_ret (pe_and (C8.pe_c (ok_is_numeral T) hr (by decide) rfl (pa_cons (pv 0) (pa_cons pe_int pa_nil))) (pe_one (pe_cmpR op_ne (pv 0) pe_str (nomark _))))), ?_⟩
    refine ⟨_, rfl, _, rfl, num_ok (by omega) h1, fun H1 s1 => ⟨_, rfl, iteT ?_⟩⟩
    exact ⟨_, rfl, rfl, qb (Q := Q) (by rw [decide_eq_false (ksn (num_ne0 h0 h1))]; rfl) (k H1 s1)⟩
/-! ### a change, a column -/
theorem part_cases {c : Chg} {m : Int} (h : ChgOk m c) (hm : m ≤ 99) {v : V} (hv : v ∈ c.vals) : (∃ s, v = .str s) ∨ ∃ d, v = vO d ∧ ValO 99 d := by
  have hi : ∀ i : Int, 0 ≤ i → i ≤ 99 → (∃ s, V.int i = .str s) ∨ ∃ d, V.int i = vO d ∧ ValO 99 d := fun i h0 h1 => .inr ⟨some i, rfl, fun j e => by cases e; exact ⟨h0, h1⟩⟩
  cases c <;> (simp only [Chg.vals, List.mem_cons, List.not_mem_nil, or_false] at hv)
  · obtain ⟨h1, h2, h3⟩ := h
    rcases hv with rfl | rfl | rfl | rfl
    · exact .inl ⟨_, rfl⟩
    · exact .inl ⟨_, rfl⟩
    · exact hi _ (by omega) (by omega)
    · exact .inr ⟨_, rfl, h3.mono hm⟩
  · rcases hv with rfl | rfl
    · exact .inl ⟨_, rfl⟩
    · exact .inl ⟨_, rfl⟩
  · rcases hv with rfl | rfl | rfl
    · exact .inl ⟨_, rfl⟩
    · exact .inl ⟨_, rfl⟩
    · exact .inl ⟨_, rfl⟩
  · obtain ⟨h1, h2⟩ := h
    rcases hv with rfl | rfl | rfl
    · exact .inl ⟨_, rfl⟩
    · exact .inl ⟨_, rfl⟩
    · exact .inr ⟨_, rfl, h2.mono hm⟩
  · obtain ⟨h1, h2, h3⟩ := h
    rcases hv with rfl | rfl | rfl | rfl
    · exact .inl ⟨_, rfl⟩
    · exact .inl ⟨_, rfl⟩
    · exact hi _ (by omega) (by omega)
    · exact .inl ⟨_, rfl⟩
  · obtain ⟨h1, h2, h3⟩ := h
    rcases hv with rfl | rfl | rfl
    · exact .inl ⟨_, rfl⟩
    · exact .inl ⟨_, rfl⟩
    · exact hi _ (by omega) (by omega)
def spWriteChange : Sp := fun vs H Q _ => ∃ (t : Addr) (c : Chg) (m : Int), vs = [.ref t] ∧ H t = some (.tup c.vals) ∧ ChgOk m c ∧ m ≤ 99 ∧ ∀ H', Same H H' → Q (.str c.text) H'
theorem sc_write_change : FnScope ["change", "part"] ["change"] (defScope s_write_change) := ⟨rfl, rfl, rfl, by decide +kernel, rfl, by decide +kernel, by decide +kernel⟩
theorem ok_write_change (T : Txt K mg w C CH) : Cal P w K mg base 2 "write_change" spWriteChange [] := by
  refine cal_of T.d_write_change sc_write_change (fun _ _ _ _ _ _ us hl => match us, hl with | [_], _ => rfl) (fun vs H Q E h => ?_) (fun f cdv A outer s H vs Q E hr h => ?_)
  · obtain ⟨_, _, _, rfl, _⟩ := h
    rfl
  · obtain ⟨t, c, m, rfl, ht, hc, hm, k⟩ := h
    refine ⟨_, pss_one (ps_ret (pe_join pe_str (pe_lc (own := [("part", 1)]) (g := gName 1) (tt := tYes) (te := tIf (tB (tCB (rIsTyp K) (tCons (tVar 1) (tCons (tC (.ty "str")) tNil)))) (tVar 1) (tCall spVt [] C8.E0 (tCons (tVar 1) tNil))) rfl sc_write_change.nd (pi_tup (pv 0)) (blkOk_by (own := [("part", 1)]) (N := ["change", "part"]) (sc := defScope s_write_change) (by decide +kernel))
        (fun _ _ _ _ _ => pg_name (i := 1) sc_write_change.nd rfl (Or.inl rfl)) (fun _ _ _ _ _ => pts_nil) (fun _ _ _ _ _ => pe_ifExp (pt_val (pe_callB call_isTyp rfl T.b_isinstance boot_isinstance (pa_cons (pv 1) (pa_cons (pTy T.b_str boot_str) pa_nil)))) (pv 1) (C8.pe_c (ok_value_text T) hr (by decide) rfl (pa_cons (pv 1) pa_nil)))))), ?_⟩
    have hS := SqT.of (K := K) ht
    have hw := words_len c
    refine ⟨⟨_, rfl⟩, _, rfl, t, rfl, ⟨_, hS⟩, fun D hD => ?_⟩
    have hlen : c.vals.length = (c.words.map V.str).length := by rw [List.length_map, parts_len]
    refine lc_vals (ys := c.words.map V.str) (by rw [← hlen]; exact walk_tup) (by rw [List.length_map]; omega) hD (fun H2 s2 => s2.seqT hS) (fun i x H2 H' y Kt hy s1 e kt => ?_) (fun H2 s1 hD2 => ?_)
    · obtain ⟨rfl, hx⟩ := e
      have hy2 : y = .str (partS x) := by
        rw [List.getElem?_map, Chg.words, List.getElem?_map, hx] at hy
        exact (Option.some.inj hy).symm
      rw [hy2] at kt
      refine ⟨rfl, ?_⟩
      rcases part_cases hc hm (List.mem_of_getElem? hx) with ⟨z, rfl⟩ | ⟨d, rfl, hd⟩
      · exact ⟨_, rfl, _, _, _, _, rfl, ty_s z, kit_ss, _, rfl, iteT ⟨_, rfl, kt _ (Same.refl _)⟩⟩
      · rw [part_vO] at kt
        rcases vt_num hd with rfl | ⟨i, rfl, h0, h1⟩
        · exact ⟨_, rfl, _, _, _, _, rfl, ty_n, kit_ns, _, rfl, iteF ⟨_, rfl, none, rfl, hd, kt _ (Same.refl _)⟩⟩
        · exact ⟨_, rfl, _, _, _, _, rfl, ty_i i, kit_is, _, rfl, iteF ⟨_, rfl, some i, rfl, hd, kt _ (Same.refl _)⟩⟩
    · refine ⟨_, _, c.words, rfl, rfl, .inl (SqL.of hD2), ?_, k H2 s1⟩
      have := sum_le (k := 8) (ps := c.words) fun p hp => (chg_wd hc hm p hp).len
      rw [sp_len]
      omega
theorem sc_law_ct : FnScope ["_law_change_here", "_law_part"] ["_law_change_here"] (defScope s_law_ct) := ⟨rfl, rfl, rfl, by decide +kernel, rfl, by decide +kernel, by decide +kernel⟩
theorem ok_law_ct (T : Txt K mg w C CH) : Cal P w K mg base 2 "_law_ct" spWriteChange [] := by
  refine cal_of T.d_law_ct sc_law_ct (fun _ _ _ _ _ _ us hl => match us, hl with | [_], _ => rfl) (fun vs H Q E h => ?_) (fun f cdv A outer s H vs Q E hr h => ?_)
  · obtain ⟨_, _, _, rfl, _⟩ := h
    rfl
  · obtain ⟨t, c, m, rfl, ht, hc, hm, k⟩ := h
    refine ⟨_, pss_one (ps_ret (pe_join pe_str (pe_lc (own := [("_law_part", 1)]) (g := gName 1) (tt := tYes) (te := tIf (tB (tCB (rIsTyp K) (tCons (tVar 1) (tCons (tC (.ty "str")) tNil)))) (tVar 1) (tCall spVt [] C8.E0 (tCons (tVar 1) tNil))) rfl sc_law_ct.nd (pi_tup (pv 0)) (blkOk_by (own := [("_law_part", 1)]) (N := ["_law_change_here", "_law_part"]) (sc := defScope s_law_ct) (by decide +kernel))
        (fun _ _ _ _ _ => pg_name (i := 1) sc_law_ct.nd rfl (Or.inl rfl)) (fun _ _ _ _ _ => pts_nil) (fun _ _ _ _ _ => pe_ifExp (pt_val (pe_callB call_isTyp rfl T.b_isinstance boot_isinstance (pa_cons (pv 1) (pa_cons (pTy T.b_str boot_str) pa_nil)))) (pv 1) (C8.pe_c (ok_law_vt T) hr (by decide) rfl (pa_cons (pv 1) pa_nil)))))), ?_⟩
    have hS := SqT.of (K := K) ht
    have hw := words_len c
    refine ⟨⟨_, rfl⟩, _, rfl, t, rfl, ⟨_, hS⟩, fun D hD => ?_⟩
    have hlen : c.vals.length = (c.words.map V.str).length := by rw [List.length_map, parts_len]
    refine lc_vals (ys := c.words.map V.str) (by rw [← hlen]; exact walk_tup) (by rw [List.length_map]; omega) hD (fun H2 s2 => s2.seqT hS) (fun i x H2 H' y Kt hy s1 e kt => ?_) (fun H2 s1 hD2 => ?_)
    · obtain ⟨rfl, hx⟩ := e
      have hy2 : y = .str (partS x) := by
        rw [List.getElem?_map, Chg.words, List.getElem?_map, hx] at hy
        exact (Option.some.inj hy).symm
      rw [hy2] at kt
      refine ⟨rfl, ?_⟩
      rcases part_cases hc hm (List.mem_of_getElem? hx) with ⟨z, rfl⟩ | ⟨d, rfl, hd⟩
      · exact ⟨_, rfl, _, _, _, _, rfl, ty_s z, kit_ss, _, rfl, iteT ⟨_, rfl, kt _ (Same.refl _)⟩⟩
      · rw [part_vO] at kt
        rcases vt_num hd with rfl | ⟨i, rfl, h0, h1⟩
        · exact ⟨_, rfl, _, _, _, _, rfl, ty_n, kit_ns, _, rfl, iteF ⟨_, rfl, none, rfl, hd, kt _ (Same.refl _)⟩⟩
        · exact ⟨_, rfl, _, _, _, _, rfl, ty_i i, kit_is, _, rfl, iteF ⟨_, rfl, some i, rfl, hd, kt _ (Same.refl _)⟩⟩
    · refine ⟨_, _, c.words, rfl, rfl, .inl (SqL.of hD2), ?_, k H2 s1⟩
      have := sum_le (k := 8) (ps := c.words) fun p hp => (chg_wd hc hm p hp).len
      rw [sp_len]
      omega
def spColumnText (C : Addr) : Sp := fun vs H Q _ => ∃ (a : Addr) (c : Col) (n m : Int), vs = [.ref a] ∧ ColAt C H (.ref a) c n ∧ ColOk m c ∧ m ≤ 99 ∧ Q (.str c.text) H
theorem sc_column_text : FnScope ["column"] ["column"] (defScope s_column_text) := ⟨rfl, rfl, rfl, by decide +kernel, rfl, by decide +kernel, by decide +kernel⟩
theorem column_sp : ("column " : Str).length = 7 := by decide +kernel
theorem ok_column_text (T : Txt K mg w C CH) : Cal P w K mg base 2 "column_text" (spColumnText C) [] := by
  refine cal_of T.d_column_text sc_column_text (fun _ _ _ _ _ _ us hl => match us, hl with | [_], _ => rfl) (fun vs H Q E h => ?_) (fun f cdv A outer s H vs Q E hr h => ?_)
  · obtain ⟨_, _, _, _, rfl, _⟩ := h
    rfl
  · obtain ⟨a, c, n, m, rfl, hA, hc, hm, k⟩ := h
    obtain ⟨dx, ha⟩ := hA.eq_fs
    refine ⟨_, pss_one (ps_ret (pe_joined (PJ.cons pe_str (PJ.cons (pe_fmt (pe_fld (pv 0) rfl)) (PJ.cons pe_str (PJ.cons (pe_fmt (pe_fld (pv 0) rfl)) (PJ.cons pe_str (PJ.cons (pe_fmt (C8.pe_c (ok_value_text T) hr (by decide) rfl (pa_cons (pe_fld (pv 0) rfl) pa_nil))) PJ.nil)))))))), ?_⟩
    have h1 := hc.name.ok.len
    have h2 := hc.most
    have h3 := (num_ok (i := c.most) (by omega) (by omega)).len
    have hd : ValO 99 c.dflt := hc.dflt.mono (by omega)
    have h4 := vt_len hd
    have e0 : (Str.empty : Str).length = 0 := rfl
    refine ⟨_, rfl, small_le (by rw [slen, column_sp]; omega), ?_⟩
    refine ⟨_, rfl, a, C, dx, _, _, rfl, ha, T.cl_Column, T.n_Column_name, cf_name _ _, .inl ⟨_, rfl, small_le (by omega), _, rfl, small_le (by rw [slen, slen, column_sp]; omega), ?_⟩⟩
    refine ⟨_, rfl, small_le (by rw [slen, slen, slen, column_sp, sp_len]; omega), ?_⟩
    refine ⟨_, rfl, a, C, dx, _, _, rfl, ha, T.cl_Column, T.n_Column_greatest, cf_most _ _, .inr ⟨_, rfl, num_log (by omega) (by omega), _, rfl, small_le ?_, ?_⟩⟩
    · show (Str.empty ++ ("column " : Str) ++ c.name ++ (" " : Str) ++ numS c.most).length ≤ 100000
      rw [slen, slen, slen, slen, column_sp, sp_len]
      omega
    refine ⟨_, rfl, small_le ?_, ?_⟩
    · show (Str.empty ++ ("column " : Str) ++ c.name ++ (" " : Str) ++ numS c.most ++ (" " : Str)).length ≤ 100000
      rw [slen, slen, slen, slen, slen, column_sp, sp_len]
      omega
    refine ⟨_, rfl, a, C, dx, _, _, rfl, ha, T.cl_Column, T.n_Column_default, cf_dflt _ _, c.dflt, rfl, hd, .inl ⟨_, rfl, small_le (by omega), _, rfl, small_le ?_, ?_⟩⟩
    · show (Str.empty ++ ("column " : Str) ++ c.name ++ (" " : Str) ++ numS c.most ++ (" " : Str) ++ vtS c.dflt).length ≤ 100000
      rw [slen, slen, slen, slen, slen, slen, column_sp, sp_len]
      omega
    · show Q (.str (Str.empty ++ ("column " : Str) ++ c.name ++ (" " : Str) ++ numS c.most ++ (" " : Str) ++ vtS c.dflt)) H
      rw [empty_app, col_glued]
      exact k
end
end Ed
/-! Editionrows: texts.py, second part: histories and tellings, written; the law's own. -/
namespace Ed
open PySem PySem.Spec PyProof.Rows L2
theorem _root_.L2.Same.unlock {H H1 : Hp} {d : Addr} {od : Obj} {u : HO} (hd : H d = some u) (s : Same (L2.upd H d (.frz od u)) H1) : Same H (L2.upd H1 d u) := fun b o e => by
  by_cases hb : b = d
  · rw [hb, upd_same]
    rw [hb, hd] at e
    exact e
  · rw [upd_ne hb]
    exact s b o (by rw [upd_ne hb]; exact e)
/-- a column of the law's own -/
def LColN (c : Col) (v : V) (H : Hp) : Prop := ∃ (t : Addr) (n : Int), v = .ref t ∧ 0 ≤ n ∧ H t = some (.tup [.str c.name, .int c.most, vO c.dflt, .int n])
theorem LColN.keep (c : Col) (v : V) (H H' : Hp) (k : Keep H H') (h : LColN c v H) : LColN c v H' := by
  obtain ⟨t, n, e, hn, h⟩ := h
  exact ⟨t, n, e, hn, k _ _ trivial h⟩
def hkv (sl cl : Addr) (g : Int) : List (Key × V) := [((Sum.inr "sheets" : Key), .ref sl), ((Sum.inr "changes" : Key), .ref cl), ((Sum.inr "given" : Key), .int g)]
theorem hkv_sheets (sl cl : Addr) (g : Int) : valV (hkv sl cl g) (Sum.inr "sheets" : Key) = some (.ref sl) := valV_pos (p := ((Sum.inr "sheets" : Key), V.ref sl)) rfl
theorem hkv_changes (sl cl : Addr) (g : Int) : valV (hkv sl cl g) (Sum.inr "changes" : Key) = some (.ref cl) := by
  unfold hkv
  rw [valV_neg (k := (Sum.inr "changes" : Key)) (show ¬ (Sum.inr "sheets" : Key) = (Sum.inr "changes" : Key) from by decide +kernel)]
  exact valV_pos rfl
theorem hkv_given (sl cl : Addr) (g : Int) : valV (hkv sl cl g) (Sum.inr "given" : Key) = some (.int g) := by
  unfold hkv
  rw [valV_neg (k := (Sum.inr "given" : Key)) (show ¬ (Sum.inr "sheets" : Key) = (Sum.inr "given" : Key) from by decide +kernel), valV_neg (k := (Sum.inr "given" : Key)) (show ¬ (Sum.inr "changes" : Key) = (Sum.inr "given" : Key) from by decide +kernel)]
  exact valV_pos rfl
/-- the law's own history at the address d -/
structure LawH (H : Hp) (d : Addr) (cols : List Col) (cs : List Chg) : Prop where
  ex : ∃ (sl cl l : Addr) (g : Int) (rest ls ts : List V), H d = some (.dK (hkv sl cl g)) ∧ H sl = some (.lst (.ref l :: rest)) ∧ H l = some (.lst ls) ∧ ItemsAt LColN cols ls H ∧ H cl = some (.lst ts) ∧ ItemsAt ChgT cs ts H
theorem LawH.same {H H' : Hp} {d : Addr} {cols : List Col} {cs : List Chg} (h : LawH H d cols cs) (s : Same H H') : LawH H' d cols cs := by
  obtain ⟨sl, cl, l, g, rest, ls, ts, h1, h2, h3, h4, h5, h6⟩ := h.ex
  exact ⟨sl, cl, l, g, rest, ls, ts, s _ _ h1, s _ _ h2, s _ _ h3, h4.keep LColN.keep s.keep, s _ _ h5, h6.keep ChgT.keep s.keep⟩
/-- columns and changes as the law draws them -/
structure HistOk (cols : List Col) (cs : List Chg) : Prop where
  co : ColsOk cols
  ne : cols ≠ []
  ch : Chain cols cs
  ok : ∀ c ∈ cs, ChgOk 3 c
  len : cs.length ≤ 40
theorem HistOk.sum {cols : List Col} {cs : List Chg} (h : HistOk cols cs) : ((cols.map Col.text ++ cs.map Chg.text).map (·.length)).sum + (cols.map Col.text ++ cs.map Chg.text).length * ("\n" : Str).length ≤ 16777216 := by
  have e := sum_le (k := 36) (hist_rows_len (m := 3) (by decide) h.co.each h.ok)
  have := h.co.most
  have := h.len
  rw [List.length_append, List.length_map, List.length_map] at e ⊢
  rw [nl_len]
  omega
theorem col_glued0 (c : Col) : Str.empty ++ ("column " : Str) ++ c.name ++ (" " : Str) ++ numS c.most ++ (" " : Str) ++ vtS c.dflt = c.text := by rw [empty_app, col_glued]
section
variable {P : Program} {w : World} {K : PySem.W.Frag} {mg : Str → Option Value} {base : Heap} {C CH : Addr}
/-! ### write_history -/
def spWriteHistory (C CH : Addr) : Sp := fun vs H Q _ => ∃ (a : Addr) (cols : List Col) (cs : List Chg), vs = [.ref a] ∧ HistAt C CH H a cols cs ∧ HistOk cols cs ∧ ∀ H', Same H H' → Q (.str (histText cols cs)) H'
theorem sc_write_history : FnScope ["history", "rows", "column", "change"] ["history"] (defScope s_write_history) := ⟨rfl, rfl, rfl, by decide +kernel, rfl, by decide +kernel, by decide +kernel⟩
theorem ok_write_history (T : Txt K mg w C CH) : Cal P w K mg base 3 "write_history" (spWriteHistory C CH) [] := by
  refine cal_of T.d_write_history sc_write_history (fun _ _ _ _ _ _ us hl => match us, hl with | [_], _ => rfl) (fun vs H Q E h => ?_) (fun f cdv A outer s H vs Q E hr h => ?_)
  · obtain ⟨_, _, _, rfl, _⟩ := h
    rfl
  · obtain ⟨a, cols, cs, rfl, hA, ho, k⟩ := h
    refine ⟨_, pss_cons (ps_setLc (i := 1) (own := [("column", 2)]) (g := gName 2) (tt := tYes) (te := tCall (spColumnText C) [] C8.E0 (tCons (tVar 2) tNil)) (by rfl) sc_write_history.nd rfl rfl (sw_true rfl rfl rfl (by decide +kernel)) (pi_list (C8.pe_mt0 (met_first_columns T) hr (by decide) (pv 0))) (blkOk_by (own := [("column", 2)]) (N := ["history", "rows", "column", "change"]) (sc := defScope s_write_history) (by decide +kernel))
          (fun _ _ _ _ _ => pg_name (i := 2) sc_write_history.nd rfl (Or.inl rfl)) (fun _ _ _ _ _ => pts_nil) (fun _ _ _ _ _ => C8.pe_c (ok_column_text T) hr (by decide) rfl (pa_cons (pv 2) pa_nil)))
      (pss_one (ps_ret (pe_join pe_str (pe_op op_cat (pv 1) (pe_lc (own := [("change", 3)]) (g := gName 3) (tt := tYes) (te := tCall spWriteChange [] C8.E0 (tCons (tVar 3) tNil)) rfl sc_write_history.nd (pi_list (C8.pe_mt0 (met_changes_told T) hr (by decide) (pv 0))) (blkOk_by (own := [("change", 3)]) (N := ["history", "rows", "column", "change"]) (sc := defScope s_write_history) (by decide +kernel))
          (fun _ _ _ _ _ => pg_name (i := 3) sc_write_history.nd rfl (Or.inl rfl)) (fun _ _ _ _ _ => pts_nil) (fun _ _ _ _ _ => C8.pe_c (ok_write_change T) hr (by decide) rfl (pa_cons (pv 3) pa_nil))))))), ?_⟩
    obtain ⟨dx, sl, rest, g, kt, l, ls, ts, a1, a2, a3, a4, a5, a6⟩ := hA.ex
    refine ⟨_, rfl, a, dx, _, rfl, a1, hf_no _ _ _ (by decide +kernel), a, cols, cs, rfl, hA, fun H1 p us s1 hp cn => ?_⟩
    refine ⟨p, rfl, ⟨_, SqL.of hp⟩, fun D hD => ?_⟩
    have l1 : us.length = ((cols.map Col.text).map V.str).length := by rw [List.length_map, List.length_map, cn.len]
    refine lc_vals (ys := (cols.map Col.text).map V.str) (by rw [← l1]; exact walk_list) (by rw [List.length_map, List.length_map]; have := ho.co.most; omega) hD (fun H2 s2 => s2.seq (SqL.of hp)) (fun i x H2 H' y Kt hy s2 e kt => ?_) (fun H2 s2 hD2 => ?_)
    · obtain ⟨rfl, hx⟩ := e
      have hi : i < cols.length := by
        have := (List.getElem?_eq_some_iff.mp hx).1
        rw [cn.len] at this
        exact this
      have hc := List.getElem?_eq_getElem hi
      obtain ⟨b, dy, rfl, hb⟩ := (cn.each i _ x hc hx).keep s2.keep
      rw [List.getElem?_map, List.getElem?_map, hc] at hy
      have ey := Option.some.inj hy
      subst ey
      exact ⟨rfl, _, rfl, b, _, _, 3, rfl, ⟨b, dy, rfl, hb⟩, ho.co.each _ (List.getElem_mem hi), by decide, kt _ (Same.refl _)⟩
    · have s12 := s1.trans s2
      refine ⟨⟨_, rfl⟩, _, rfl, _, rfl, a, dx, _, rfl, s12 _ _ a1, hf_no _ _ _ (by decide +kernel), a, cols, cs, rfl, hA.same s12, fun H3 q vs s3 hq ct => ?_⟩
      refine ⟨q, rfl, ⟨_, SqL.of hq⟩, fun D2 hD2' => ?_⟩
      have l2 : vs.length = ((cs.map Chg.text).map V.str).length := by rw [List.length_map, List.length_map, ct.len]
      refine lc_vals (ys := (cs.map Chg.text).map V.str) (by rw [← l2]; exact walk_list) (by rw [List.length_map, List.length_map]; have := ho.len; omega) hD2' (fun H4 s4 => s4.seq (SqL.of hq)) (fun i x H4 H' y Kt hy s4 e kt => ?_) (fun H4 s4 hD4 => ?_)
      · obtain ⟨rfl, hx⟩ := e
        obtain ⟨c, hc, rc⟩ := ct.get hx
        obtain ⟨t, rfl, ht⟩ := ChgT.keep _ _ _ _ s4.keep rc
        rw [List.getElem?_map, List.getElem?_map, hc] at hy
        have ey := Option.some.inj hy
        subst ey
        exact ⟨rfl, _, rfl, t, c, 3, rfl, ht, ho.ok _ (List.mem_of_getElem? hc), by decide, fun H5 s5 => kt _ s5⟩
      · have s24 := s3.trans s4
        refine ⟨D, D2, _, _, rfl, rfl, s24 _ _ hD2, hD4, small_le ?_, fun r hr' => ?_⟩
        · rw [List.length_map, List.length_map, List.length_map, List.length_map]
          have := ho.co.most
          have := ho.len
          omega
        · exact ⟨_, r, cols.map Col.text ++ cs.map Chg.text, rfl, rfl, .inl (SqL.of (by rw [upd_same, List.map_append])), ho.sum, k _ ((s12.trans s24).trans (Same.new hr'))⟩
/-! ### the law's own -/
def spLawHt : Sp := fun vs H Q _ => ∃ (d : Addr) (cols : List Col) (cs : List Chg), vs = [.ref d] ∧ LawH H d cols cs ∧ HistOk cols cs ∧ ∀ H', Same H H' → Q (.str (histText cols cs)) H'
theorem sc_law_ht : FnScope ["_law_h", "_law_rows", "_law_col", "_law_change_here"] ["_law_h"] (defScope s_law_ht) := ⟨rfl, rfl, rfl, by decide +kernel, rfl, by decide +kernel, by decide +kernel⟩
def tCatS (ta tb : TE) : TE := tOp (fun x y H Q => ∃ i j, x = .str i ∧ y = .str j ∧ i.length + j.length ≤ sizeLine ∧ Q (.str (i ++ j)) H) ta tb
theorem pe_catS {X : Cx} {a b : Expr} {ta tb : TE} {pos : Pos} (ha : PE X a ta) (hb : PE X b tb) : PE X (.BinOp a .Add b pos) (tCatS ta tb) := pe_op op_add_str ha hb
def teRow (K : PySem.W.Frag) (i : Nat) : TE := tCatS (tCatS (tCatS (tCatS (tCatS (tC (.str "column ")) (tOp (rIxT K) (tVar i) (tC (.int 0)))) (tC (.str " "))) (tCB (fun xs H Q => ∃ i, xs = [.int i] ∧ i.natAbs.log2 < 1920 ∧ Q (.str (toString i)) H) (tCons (tOp (rIxT K) (tVar i) (tC (.int 1))) tNil))) (tC (.str " "))) (tCall spVt [] C8.E0 (tCons (tOp (rIxT K) (tVar i) (tC (.int 2))) tNil))
theorem ok_law_ht (T : Txt K mg w C CH) : Cal P w K mg base 3 "_law_ht" spLawHt [] := by
  refine cal_of T.d_law_ht sc_law_ht (fun _ _ _ _ _ _ us hl => match us, hl with | [_], _ => rfl) (fun vs H Q E h => ?_) (fun f cdv A outer s H vs Q E hr h => ?_)
  · obtain ⟨_, _, _, rfl, _⟩ := h
    rfl
  · obtain ⟨d, cols, cs, rfl, hA, ho, k⟩ := h
    have hu := hu_of hr
    refine ⟨_, pss_cons (ps_setLc (i := 1) (own := [("_law_col", 2)]) (g := gName 2) (tt := tYes) (te := teRow K 2) (by rfl) sc_law_ht.nd rfl rfl (sw_true rfl rfl rfl (by decide +kernel)) (pi_list (pe_ix ix_list (pe_dget hu (pv 0) pe_str (fun _ _ => rfl)) pe_int (fun _ _ => rfl))) (blkOk_by (own := [("_law_col", 2)]) (N := ["_law_h", "_law_rows", "_law_col", "_law_change_here"]) (sc := defScope s_law_ht) (by decide +kernel))
          (fun _ _ _ _ _ => pg_name (i := 2) sc_law_ht.nd rfl (Or.inl rfl)) (fun _ _ _ _ _ => pts_nil)
          (fun _ _ _ _ _ => pe_catS (pe_catS (pe_catS (pe_catS (pe_catS pe_str (pe_ix ix_tup (pv 2) pe_int (fun _ _ => rfl))) pe_str) (pe_callTy call_str_int rfl T.b_str boot_str (pa_cons (pe_ix ix_tup (pv 2) pe_int (fun _ _ => rfl)) pa_nil))) pe_str) (C8.pe_c (ok_law_vt T) hr (by decide) rfl (pa_cons (pe_ix ix_tup (pv 2) pe_int (fun _ _ => rfl)) pa_nil))))
      (pss_one (ps_ret (pe_join pe_str (pe_op op_cat (pv 1) (pe_lc (own := [("_law_change_here", 3)]) (g := gName 3) (tt := tYes) (te := tCall spWriteChange [] C8.E0 (tCons (tVar 3) tNil)) rfl sc_law_ht.nd (pi_list (pe_dget hu (pv 0) pe_str (fun _ _ => rfl))) (blkOk_by (own := [("_law_change_here", 3)]) (N := ["_law_h", "_law_rows", "_law_col", "_law_change_here"]) (sc := defScope s_law_ht) (by decide +kernel))
          (fun _ _ _ _ _ => pg_name (i := 3) sc_law_ht.nd rfl (Or.inl rfl)) (fun _ _ _ _ _ => pts_nil) (fun _ _ _ _ _ => C8.pe_c (ok_law_ct T) hr (by decide) rfl (pa_cons (pv 3) pa_nil))))))), ?_⟩
    obtain ⟨sl, cl, l, g, rest, ls, ts, a1, a2, a3, a4, a5, a6⟩ := hA.ex
    refine ⟨_, rfl, d, _, rfl, by rw [← hkv_sheets sl cl g]; exact DGet.k (k := Sum.inr "sheets") a1, sl, _, _, _, rfl, rfl, SqL.of a2, atI_0, ?_⟩
    refine ⟨l, rfl, ⟨_, SqL.of a3⟩, fun D hD => ?_⟩
    have l1 : ls.length = ((cols.map Col.text).map V.str).length := by rw [List.length_map, List.length_map, a4.len]
    refine lc_vals (ys := (cols.map Col.text).map V.str) (by rw [← l1]; exact walk_list) (by rw [List.length_map, List.length_map]; have := ho.co.most; omega) hD (fun H2 s2 => s2.seq (SqL.of a3)) (fun i x H2 H' y Kt hy s2 e kt => ?_) (fun H2 s2 hD2 => ?_)
    · obtain ⟨rfl, hx⟩ := e
      obtain ⟨c, hc, rc⟩ := a4.get hx
      obtain ⟨t, n, rfl, hn, ht⟩ := LColN.keep _ _ _ _ s2.keep rc
      have hS := SqT.of (K := K) ht
      rw [List.getElem?_map, List.getElem?_map, hc] at hy
      have ey := Option.some.inj hy
      subst ey
      have hco := ho.co.each _ (List.mem_of_getElem? hc)
      have h1 := hco.name.ok.len
      have h2 := hco.most
      have h3 := (num_ok (i := c.most) (by omega) (by omega)).len
      have hd : ValO 99 c.dflt := hco.dflt.mono (by omega)
      have h4 := vt_len hd
      refine ⟨rfl, ?_⟩
      refine ⟨_, rfl, t, _, _, _, rfl, rfl, hS, atI_0, _, _, rfl, rfl, small_le (by rw [column_sp]; omega), ?_⟩
      refine ⟨_, _, rfl, rfl, small_le (by rw [slen, column_sp, sp_len]; omega), ?_⟩
      refine ⟨_, rfl, t, _, _, .int c.most, rfl, rfl, hS, rfl, c.most, rfl, num_log (by omega) (by omega), _, numS c.most, rfl, rfl, small_le (by rw [slen, slen, column_sp, sp_len]; omega), ?_⟩
      refine ⟨_, _, rfl, rfl, small_le (by rw [slen, slen, slen, column_sp, sp_len]; omega), ?_⟩
      refine ⟨_, rfl, t, _, _, vO c.dflt, rfl, rfl, hS, rfl, c.dflt, rfl, hd, _, _, rfl, rfl, small_le (by rw [slen, slen, slen, slen, column_sp, sp_len]; omega), ?_⟩
      rw [col_glued]
      exact kt _ (Same.refl _)
    · refine ⟨⟨_, rfl⟩, _, rfl, _, rfl, d, _, rfl, by rw [← hkv_changes sl cl g]; exact DGet.k (k := Sum.inr "changes") (s2 _ _ a1), ?_⟩
      have hcl := s2 _ _ a5
      refine ⟨cl, rfl, ⟨_, SqL.of hcl⟩, fun D2 hD2' => ?_⟩
      have ct := a6.keep ChgT.keep s2.keep
      have l2 : ts.length = ((cs.map Chg.text).map V.str).length := by rw [List.length_map, List.length_map, ct.len]
      refine lc_vals (ys := (cs.map Chg.text).map V.str) (by rw [← l2]; exact walk_list) (by rw [List.length_map, List.length_map]; have := ho.len; omega) hD2' (fun H4 s4 => s4.seq (SqL.of hcl)) (fun i x H4 H' y Kt hy s4 e kt => ?_) (fun H4 s4 hD4 => ?_)
      · obtain ⟨rfl, hx⟩ := e
        obtain ⟨c, hc, rc⟩ := ct.get hx
        obtain ⟨t, rfl, ht⟩ := ChgT.keep _ _ _ _ s4.keep rc
        rw [List.getElem?_map, List.getElem?_map, hc] at hy
        have ey := Option.some.inj hy
        subst ey
        exact ⟨rfl, _, rfl, t, c, 3, rfl, ht, ho.ok _ (List.mem_of_getElem? hc), by decide, fun H5 s5 => kt _ s5⟩
      · refine ⟨D, D2, _, _, rfl, rfl, s4 _ _ hD2, hD4, small_le ?_, fun r hr' => ?_⟩
        · rw [List.length_map, List.length_map, List.length_map, List.length_map]
          have := ho.co.most
          have := ho.len
          omega
        · exact ⟨_, r, cols.map Col.text ++ cs.map Chg.text, rfl, rfl, .inl (SqL.of (by rw [upd_same, List.map_append])), ho.sum, k _ ((s2.trans s4).trans (Same.new hr'))⟩
/-! ### what a writer tells -/
def spWriteTold : Sp := fun vs H Q _ => ∃ (d : Addr) (t : List (Str × Option Int)), vs = [.ref d] ∧ H d = some (.dK (tkv t)) ∧ ToldOk t ∧ ∀ H', Same H H' → Q (.str (toldText t)) H'
theorem told_sum {t : List (Str × Option Int)} (h : ToldOk t) : ((t.map partT).map (·.length)).sum + (t.map partT).length * (" " : Str).length ≤ 16777216 := by
  have e := sum_le (k := 17) (ps := t.map partT) fun p hp => by
    obtain ⟨q, hq, rfl⟩ := List.mem_map.mp hp
    exact partT_len (h.each q hq)
  have := h.len
  rw [List.length_map] at e ⊢
  rw [sp_len]
  omega
def teTold : TE := fun σ H Q => tJs [tFmt (tVar 1), tC (.str " "), tFmt (tCall spVt [] C8.E0 (tCons (tDGet (tVar 0) (tVar 1)) tNil))] Str.empty σ H fun out H1 => Q (.str out) H1
theorem sc_write_told : FnScope ["told", "name"] ["told"] (defScope s_write_told) := ⟨rfl, rfl, rfl, by decide +kernel, rfl, by decide +kernel, by decide +kernel⟩
theorem ok_write_told (T : Txt K mg w C CH) : Cal P w K mg base 2 "write_told" spWriteTold [] := by
  refine cal_of T.d_write_told sc_write_told (fun _ _ _ _ _ _ us hl => match us, hl with | [_], _ => rfl) (fun vs H Q E h => ?_) (fun f cdv A outer s H vs Q E hr h => ?_)
  · obtain ⟨_, _, rfl, _⟩ := h
    rfl
  · obtain ⟨d, t, rfl, hd, ho, k⟩ := h
    have hu := hu_of hr
    refine ⟨_, pss_one (ps_ret (pe_join pe_str (pe_lock (pe_lc (own := [("name", 1)]) (g := gName 1) (tt := tYes) (te := teTold) rfl sc_write_told.nd (pi_keys (pv 0)) (blkOk_by (own := [("name", 1)]) (N := ["told", "name"]) (sc := defScope s_write_told) (by decide +kernel))
        (fun _ _ _ _ _ => pg_name (i := 1) sc_write_told.nd rfl (Or.inl rfl)) (fun _ _ _ _ _ => pts_nil) (fun _ _ _ _ _ => pe_joined (PJ.cons (pe_fmt (pv 1)) (PJ.cons pe_str (PJ.cons (pe_fmt (C8.pe_c (ok_value_text T) hr (by decide) rfl (pa_cons (pe_dget hu (pv 0) (pv 1) (fun _ _ => rfl)) pa_nil))) PJ.nil)))))))), ?_⟩
    refine ⟨⟨_, rfl⟩, d, _, hd, trivial, fun od => ?_⟩
    refine ⟨_, rfl, d, od, rfl, .inl ⟨_, upd_same, fun D hD => ?_⟩⟩
    have hdD : d ≠ D := fun q => by rw [← q, upd_same] at hD; cases hD
    have l1 : (tkv t).length = ((t.map partT).map V.str).length := by rw [List.length_map, List.length_map, tkv, List.length_map]
    refine lc_vals (ys := (t.map partT).map V.str) (by rw [← l1]; exact walk_keys) (by rw [List.length_map, List.length_map]; have := ho.len; omega) hD (fun H2 s2 => s2 _ _ upd_same) (fun i x H2 H' y Kt hy s2 e kt => ?_) (fun H2 s2 hD2 => ?_)
    · obtain ⟨rfl, ky, vv, hx, rfl⟩ := e
      have hp : ∃ p, t[i]? = some p ∧ (Sum.inr p.1 : Key) = ky := by
        rw [tkv, List.getElem?_map] at hx
        cases ep : t[i]? with
        | none => rw [ep] at hx; cases hx
        | some p =>
          rw [ep] at hx
          exact ⟨p, rfl, (Prod.mk.inj (Option.some.inj hx)).1⟩
      obtain ⟨p, hp, rfl⟩ := hp
      have hm := List.mem_of_getElem? hp
      obtain ⟨hn, hv⟩ := ho.each p hm
      rw [List.getElem?_map, List.getElem?_map, hp] at hy
      have ey := Option.some.inj hy
      subst ey
      have h1 := hn.len
      have h4 := vt_len hv
      have e0 : (Str.empty : Str).length = 0 := rfl
      refine ⟨rfl, ?_⟩
      refine ⟨_, rfl, .inl ⟨p.1, rfl, small_le (by omega), _, rfl, small_le (by rw [slen]; omega), ?_⟩⟩
      refine ⟨_, rfl, small_le (by rw [slen, slen, sp_len]; omega), ?_⟩
      refine ⟨_, rfl, _, rfl, d, _, rfl, .inl ⟨_, (Sum.inr p.1 : Key), .inr ⟨od, s2 _ _ upd_same⟩, rfl, (tkv_get ho.nd hm).symm⟩, p.2, rfl, hv, .inl ⟨_, rfl, small_le (by omega), _, rfl, small_le (by rw [slen, slen, slen, sp_len]; omega), ?_⟩⟩
      show Kt (.str (Str.empty ++ p.1 ++ (" " : Str) ++ vtS p.2)) _
      rw [empty_app]
      exact kt _ (Same.refl _)
    · refine ⟨s2 _ _ upd_same, _, D, t.map partT, rfl, rfl, .inl (SqL.of (by rw [upd_ne hdD.symm]; exact hD2)), told_sum ho, k _ (Same.unlock hd s2)⟩
theorem sc_law_tt : FnScope ["_law_told", "_law_name"] ["_law_told"] (defScope s_law_tt) := ⟨rfl, rfl, rfl, by decide +kernel, rfl, by decide +kernel, by decide +kernel⟩
theorem ok_law_tt (T : Txt K mg w C CH) : Cal P w K mg base 2 "_law_tt" spWriteTold [] := by
  refine cal_of T.d_law_tt sc_law_tt (fun _ _ _ _ _ _ us hl => match us, hl with | [_], _ => rfl) (fun vs H Q E h => ?_) (fun f cdv A outer s H vs Q E hr h => ?_)
  · obtain ⟨_, _, rfl, _⟩ := h
    rfl
  · obtain ⟨d, t, rfl, hd, ho, k⟩ := h
    have hu := hu_of hr
    refine ⟨_, pss_one (ps_ret (pe_join pe_str (pe_lock (pe_lc (own := [("_law_name", 1)]) (g := gName 1) (tt := tYes) (te := tCatS (tCatS (tVar 1) (tC (.str " "))) (tCall spVt [] C8.E0 (tCons (tDGet (tVar 0) (tVar 1)) tNil))) rfl sc_law_tt.nd (pi_keys (pv 0)) (blkOk_by (own := [("_law_name", 1)]) (N := ["_law_told", "_law_name"]) (sc := defScope s_law_tt) (by decide +kernel))
        (fun _ _ _ _ _ => pg_name (i := 1) sc_law_tt.nd rfl (Or.inl rfl)) (fun _ _ _ _ _ => pts_nil) (fun _ _ _ _ _ => pe_catS (pe_catS (pv 1) pe_str) (C8.pe_c (ok_law_vt T) hr (by decide) rfl (pa_cons (pe_dget hu (pv 0) (pv 1) (fun _ _ => rfl)) pa_nil))))))), ?_⟩
    refine ⟨⟨_, rfl⟩, d, _, hd, trivial, fun od => ?_⟩
    refine ⟨_, rfl, d, od, rfl, .inl ⟨_, upd_same, fun D hD => ?_⟩⟩
    have hdD : d ≠ D := fun q => by rw [← q, upd_same] at hD; cases hD
    have l1 : (tkv t).length = ((t.map partT).map V.str).length := by rw [List.length_map, List.length_map, tkv, List.length_map]
    refine lc_vals (ys := (t.map partT).map V.str) (by rw [← l1]; exact walk_keys) (by rw [List.length_map, List.length_map]; have := ho.len; omega) hD (fun H2 s2 => s2 _ _ upd_same) (fun i x H2 H' y Kt hy s2 e kt => ?_) (fun H2 s2 hD2 => ?_)
    · obtain ⟨rfl, ky, vv, hx, rfl⟩ := e
      have hp : ∃ p, t[i]? = some p ∧ (Sum.inr p.1 : Key) = ky := by
        rw [tkv, List.getElem?_map] at hx
        cases ep : t[i]? with
        | none => rw [ep] at hx; cases hx
        | some p =>
          rw [ep] at hx
          exact ⟨p, rfl, (Prod.mk.inj (Option.some.inj hx)).1⟩
      obtain ⟨p, hp, rfl⟩ := hp
      have hm := List.mem_of_getElem? hp
      obtain ⟨hn, hv⟩ := ho.each p hm
      rw [List.getElem?_map, List.getElem?_map, hp] at hy
      have ey := Option.some.inj hy
      subst ey
      have h1 := hn.len
      have h4 := vt_len hv
      refine ⟨rfl, ?_⟩
      refine ⟨_, rfl, p.1, _, rfl, rfl, small_le (by rw [sp_len]; omega), ?_⟩
      refine ⟨_, rfl, _, rfl, d, _, rfl, .inl ⟨_, (Sum.inr p.1 : Key), .inr ⟨od, s2 _ _ upd_same⟩, rfl, (tkv_get ho.nd hm).symm⟩, p.2, rfl, hv, _, _, rfl, rfl, small_le (by rw [slen, sp_len]; omega), ?_⟩
      exact kt _ (Same.refl _)
    · refine ⟨s2 _ _ upd_same, _, D, t.map partT, rfl, rfl, .inl (SqL.of (by rw [upd_ne hdD.symm]; exact hD2)), told_sum ho, k _ (Same.unlock hd s2)⟩
end
end Ed
/-! Editionrows: texts.py, third part: a change and a column, read. -/
namespace Ed
open PySem PySem.Spec PyProof.Rows L2
def Chg.rest : Chg → List Str
  | .add _ g d => [numS g, vtS d]
  | .drop _ => []
  | .rename _ k => [k]
  | .dfl _ d => [vtS d]
  | .grt _ g w => [numS g, w]
  | .fill _ i => [numS i]
theorem words_eq (c : Chg) : c.words = c.kind :: c.name :: c.rest := by
  cases c with
  | add n g d => cases d <;> rfl
  | drop n => rfl
  | rename n k => rfl
  | dfl n d => cases d <;> rfl
  | grt n g w => rfl
  | fill n i => rfl
theorem rest_len (c : Chg) : c.rest.length ≤ 2 := by cases c <;> (simp only [Chg.rest, List.length_cons, List.length_nil]; omega)
def wv (c : Chg) : List V := .str c.kind :: .str c.name :: c.rest.map V.str
theorem wv_eq (c : Chg) : c.words.map V.str = wv c := by
  rw [words_eq]
  rfl
theorem kind_col (c : Chg) : c.kind ≠ ("column" : Str) := by
  cases c with
  | add n g d => exact (by decide +kernel : ("add" : Str) ≠ "column")
  | drop n => exact (by decide +kernel : ("drop" : Str) ≠ "column")
  | rename n k => exact (by decide +kernel : ("rename" : Str) ≠ "column")
  | dfl n d => exact (by decide +kernel : ("default" : Str) ≠ "column")
  | grt n g w => exact (by decide +kernel : ("greatest" : Str) ≠ "column")
  | fill n i => exact (by decide +kernel : ("fill" : Str) ≠ "column")
theorem cut_hd {a b : V} {r : List V} : r.length ≤ 2 → cutV (a :: b :: r) none (some 2) = [a, b] := fun h =>
  match r, h with
  | [], _ => rfl
  | [_], _ => rfl
  | [_, _], _ => rfl
theorem cut_tl {a b : V} {r : List V} : r.length ≤ 2 → cutV (a :: b :: r) (some 2) none = r := fun h =>
  match r, h with
  | [], _ => rfl
  | [_], _ => rfl
  | [_, _], _ => rfl
def Short : Chg → Prop
  | .rename _ _ => True
  | .dfl _ _ => True
  | .fill _ _ => True
  | _ => False
section
variable {P : Program} {w : World} {K : PySem.W.Frag} {mg : Str → Option Value} {base : Heap} {C CH : Addr}
/-! ### short_change -/
def spShort : Sp := fun vs H Q _ => ∃ (c : Chg) (m : Int) (x : Str), vs = [.str c.kind, .str c.name, .str x] ∧ c.rest = [x] ∧ Short c ∧ ChgOk m c ∧ m ≤ 99 ∧ ∀ H' t, Same H H' → H' t = some (.tup c.vals) → Q (.ref t) H'
theorem sc_short_change : FnScope ["kind", "name", "word"] ["kind", "name", "word"] (defScope s_short_change) := ⟨rfl, rfl, rfl, by decide +kernel, rfl, by decide +kernel, by decide +kernel⟩
theorem ok_short_change (T : Txt K mg w C CH) : Cal P w K mg base 3 "short_change" spShort [] := by
  refine cal_of T.d_short_change sc_short_change (fun _ _ _ _ _ _ us hl => match us, hl with | [_, _, _], _ => rfl) (fun vs H Q E h => ?_) (fun f cdv A outer s H vs Q E hr h => ?_)
  · obtain ⟨_, _, _, rfl, _⟩ := h
    rfl
  · obtain ⟨c, m, x, rfl, hx, hs, hc, hm, k⟩ := h
    refine ⟨_, pss_cons (ps_if (pt_cmpR op_eq (pv 0) pe_str (nomark _)) (pss_one (ps_ret (pe_ifExp (pt_val (C8.pe_c (ok_is_name T) hr (by decide) rfl (pa_cons (pv 2) pa_nil))) (pe_tup (pa_cons pe_str (pa_cons (pv 1) (pa_cons (pv 2) pa_nil)))) pe_non))) pss_nil)
      (pss_cons (ps_if (pt_cmpR op_eq (pv 0) pe_str (nomark _)) (pss_one (ps_ret (pe_ifExp (pt_val (C8.pe_c (ok_is_value_word T) hr (by decide) rfl (pa_cons (pv 2) pa_nil))) (pe_tup (pa_cons pe_str (pa_cons (pv 1) (pa_cons (C8.pe_c (ok_value_in T) hr (by decide) rfl (pa_cons (pv 2) pa_nil)) pa_nil)))) pe_non))) pss_nil)
      (pss_one (ps_ret (pe_ifExp (PW.pt (pw_and (pt_cmpR op_eq (pv 0) pe_str (nomark _)) (pw_and1 (pt_val (C8.pe_c (ok_is_numeral T) hr (by decide) rfl (pa_cons (pv 2) (pa_cons pe_int pa_nil))))))) (pe_tup (pa_cons pe_str (pa_cons (pv 1) (pa_cons (pe_callTy call_int_str rfl T.b_int boot_int (pa_cons (pv 2) pa_nil)) pa_nil)))) pe_non)))), ?_⟩
    refine ⟨_, rfl, rfl, _, rfl, ?_⟩
    cases c with
    | rename n k2 =>
      have ex : k2 = x := (List.cons.inj hx).1
      subst ex
      refine ifT (decide_eq_true rfl) ⟨_, rfl, _, rfl, hc.2.ok, fun H1 s1 => ⟨_, rfl, iteT ?_⟩⟩
      refine ⟨_, rfl, _, rfl, (by show 3 ≤ sizeLine; decide), fun t ht => ?_⟩
      exact k _ t (s1.trans (Same.new ht)) upd_same
    | dfl n d =>
      have ex : vtS d = x := (List.cons.inj hx).1
      subst ex
      have hd : ValO 99 d := hc.2.mono hm
      refine ifF (decide_eq_false (ksn (a := "default") (by decide +kernel))) ?_
      refine ⟨_, rfl, rfl, _, rfl, ifT (decide_eq_true rfl) ⟨_, rfl, d, rfl, hd, fun H1 s1 => ⟨_, rfl, iteT ?_⟩⟩⟩
      refine ⟨_, rfl, _, rfl, d, rfl, hd, (by show 3 ≤ sizeLine; decide), fun t ht => ?_⟩
      exact k _ t (s1.trans (Same.new ht)) upd_same
    | fill n i =>
      have ex : numS i = x := (List.cons.inj hx).1
      subst ex
      obtain ⟨h1, h2, h3⟩ := hc
      have hi : i ≤ 99 := by omega
      refine ifF (decide_eq_false (ksn (a := "fill") (by decide +kernel))) ?_
      refine ⟨_, rfl, rfl, _, rfl, ifF (decide_eq_false (ksn (a := "fill") (by decide +kernel))) ?_⟩
      refine ⟨_, rfl, rfl, _, rfl, ifT (decide_eq_true rfl) ⟨_, rfl, _, rfl, num_ok h2 hi, fun H1 s1 => ⟨_, rfl, iteT ?_⟩⟩⟩
      refine ⟨_, rfl, _, rfl, _, i, rfl, num_int h2 hi, num_len h2 hi, (by show 3 ≤ sizeLine; decide), fun t ht => ?_⟩
      exact k _ t (s1.trans (Same.new ht)) upd_same
    | add _ _ _ => exact hs.elim
    | drop _ => exact hs.elim
    | grt _ _ _ => exact hs.elim
/-! ### change_in -/
def spChangeIn : Sp := fun vs H Q _ => ∃ (l : Addr) (c : Chg) (m : Int), vs = [.ref l] ∧ H l = some (.lst (wv c)) ∧ ChgOk m c ∧ m ≤ 99 ∧ ∀ H' t, Same H H' → H' t = some (.tup c.vals) → Q (.ref t) H'
theorem sc_change_in : FnScope ["words", "kind", "name", "rest"] ["words"] (defScope s_change_in) := ⟨rfl, rfl, rfl, by decide +kernel, rfl, by decide +kernel, by decide +kernel⟩
theorem ok_change_in (T : Txt K mg w C CH) : Cal P w K mg base 4 "change_in" spChangeIn [] := by
  refine cal_of T.d_change_in sc_change_in (fun _ _ _ _ _ _ us hl => match us, hl with | [_], _ => rfl) (fun vs H Q E h => ?_) (fun f cdv A outer s H vs Q E hr h => ?_)
  · obtain ⟨_, _, _, rfl, _⟩ := h
    rfl
  · obtain ⟨l, c, m, rfl, hl, hc, hm, k⟩ := h
    obtain ⟨wt, gw, hW⟩ := T.t_WAYS
    refine ⟨_, pss_cons (ps_if (PW.pt (pw_or (pt_cmpR op_lt (pe_callB call_len_seq rfl T.b_len PySem.boot_len (pa_cons (pv 0) pa_nil)) pe_int (nomark _)) (pw_or1 (pt_not (pt_val (C8.pe_c (ok_is_name T) hr (by decide) rfl (pa_cons (pe_ix ix_list (pv 0) pe_int (fun _ _ => rfl)) pa_nil))))))) (pss_one (ps_ret pe_non)) pss_nil)
      (pss_cons (ps_asg (pe_slice sl_list (pv 0) po_none (po_some pe_int)) (pg_unl rfl (pgs_cons (pg_name (i := 1) sc_change_in.nd rfl (Or.inl rfl)) (pgs_cons (pg_name (i := 2) sc_change_in.nd rfl (Or.inl rfl)) pgs_nil))))
      (pss_cons (ps_set (i := 3) sc_change_in.nd rfl (Or.inl rfl) (pe_slice sl_list (pv 0) (po_some pe_int) po_none))
      (pss_cons (ps_if (PW.pt (pw_and (pt_cmpR op_eq (pv 1) pe_str (nomark _)) (pw_and1 (pt_cmpR (op_eqD hr.units) (pv 3) (pe_lst pa_nil) (nomark _))))) (pss_one (ps_ret (pe_tup (pa_cons pe_str (pa_cons (pv 2) pa_nil))))) pss_nil)
      (pss_cons (ps_if (pt_cmpR op_eq (pe_callB call_len_seq rfl T.b_len PySem.boot_len (pa_cons (pv 3) pa_nil)) pe_int (nomark _)) (pss_one (ps_ret (C8.pe_c (ok_short_change T) hr (by decide) rfl (pa_cons (pv 1) (pa_cons (pv 2) (pa_cons (pe_ix ix_list (pv 3) pe_int (fun _ _ => rfl)) pa_nil)))))) pss_nil)
      (pss_cons (ps_if (PW.pt (pw_or (pt_cmpR op_ne (pe_callB call_len_seq rfl T.b_len PySem.boot_len (pa_cons (pv 3) pa_nil)) pe_int (nomark _)) (pw_or1 (pt_not (pt_val (C8.pe_c (ok_is_greatest_word T) hr (by decide) rfl (pa_cons (pe_ix ix_list (pv 3) pe_int (fun _ _ => rfl)) pa_nil))))))) (pss_one (ps_ret pe_non)) pss_nil)
      (pss_cons (ps_if (PW.pt (pw_and (pt_cmpR op_eq (pv 1) pe_str (nomark _)) (pw_and1 (pt_val (C8.pe_c (ok_is_value_word T) hr (by decide) rfl (pa_cons (pe_ix ix_list (pv 3) pe_int (fun _ _ => rfl)) pa_nil))))))
          (pss_one (ps_ret (pe_tup (pa_cons pe_str (pa_cons (pv 2) (pa_cons (pe_callTy call_int_str rfl T.b_int boot_int (pa_cons (pe_ix ix_list (pv 3) pe_int (fun _ _ => rfl)) pa_nil)) (pa_cons (C8.pe_c (ok_value_in T) hr (by decide) rfl (pa_cons (pe_ix ix_list (pv 3) pe_int (fun _ _ => rfl)) pa_nil)) pa_nil))))))) pss_nil)
      (pss_one (ps_ret (pe_ifExp (PW.pt (pw_and (pt_cmpR op_eq (pv 1) pe_str (nomark _)) (pw_and1 (pt_cmpR op_in_seq (pe_ix ix_list (pv 3) pe_int (fun _ _ => rfl)) (pe_glob (v := .ref wt) rfl gw rfl) (by rfl)))))
          (pe_tup (pa_cons pe_str (pa_cons (pv 2) (pa_cons (pe_callTy call_int_str rfl T.b_int boot_int (pa_cons (pe_ix ix_list (pv 3) pe_int (fun _ _ => rfl)) pa_nil)) (pa_cons (pe_ix ix_list (pv 3) pe_int (fun _ _ => rfl)) pa_nil))))) pe_non))))))))), ?_⟩
    have hrl := rest_len c
    have hwl : (wv c).length = c.rest.length + 2 := by show (c.rest.map V.str).length + 1 + 1 = _; rw [List.length_map]
    have hrm : (c.rest.map V.str).length ≤ 2 := by rw [List.length_map]; exact hrl
    refine ⟨_, rfl, l, _, rfl, .inl (SqL.of hl), _, _, rfl, rfl, _, rfl, ifF (decide_eq_false (by rw [hwl]; omega)) ?_⟩
    have e1 : atI (wv c) 1 = some (.str c.name) := by
      unfold atI ixN
      rw [if_pos (by decide), if_pos (by rw [hwl]; omega)]
      rfl
    refine ⟨_, rfl, l, _, _, _, rfl, rfl, SqL.of hl, e1, _, rfl, hc.nm.ok, fun H1 s1 => ⟨_, rfl, iteF ?_⟩⟩
    have hl1 := s1 _ _ hl
    refine ⟨_, rfl, 2, rfl, l, _, rfl, SqL.of hl1, fun p hp => ?_⟩
    have s2 : Same H1 (upd H1 p (.lst (cutV (wv c) none (some 2)))) := Same.new hp
    refine ⟨p, [.str c.kind, .str c.name], rfl, SqL.of (by rw [upd_same]; exact congrArg (fun z => some (HO.lst z)) (cut_hd hrm)), rfl, _, _, rfl, _, _, rfl, rfl, ?_⟩
    refine ⟨_, rfl, 2, rfl, l, _, rfl, SqL.of (s2 _ _ hl1), fun q hq => ?_⟩
    generalize hH2 : upd H1 p (.lst (cutV (wv c) none (some 2))) = H2 at s2 hq
    have s3 : Same H2 (upd H2 q (.lst (cutV (wv c) (some 2) none))) := Same.new hq
    have hq3 : (upd H2 q (.lst (cutV (wv c) (some 2) none))) q = some (.lst (c.rest.map V.str)) := by rw [upd_same]; exact congrArg (fun z => some (HO.lst z)) (cut_tl hrm)
    have s13 := s1.trans (s2.trans s3)
    generalize upd H2 q (.lst (cutV (wv c) (some 2) none)) = H3 at s13 hq3
    clear s3 hq hH2 s2
    show _
    cases c with
    | drop n =>
      refine ⟨_, rfl, rfl, _, rfl, ifT (decide_eq_true rfl) ?_⟩
      refine ⟨_, rfl, (by show 0 ≤ sizeLine; decide), fun r hr' => ?_⟩
      refine ⟨.list [], .list [], .lst (SqL.of ((Same.new hr') _ _ hq3)) .nil, .lst (SqL.of upd_same) .nil, rfl, rfl, _, rfl, ifT rfl ?_⟩
      refine ⟨_, rfl, (by show 2 ≤ sizeLine; decide), fun t ht => ?_⟩
      exact k _ t (s13.trans ((Same.new hr').trans (Same.new ht))) upd_same
    | rename n k2 =>
      refine ⟨_, rfl, rfl, _, rfl, ifF (decide_eq_false (ksn (a := "rename") (by decide +kernel))) ?_⟩
      refine ⟨_, rfl, q, _, rfl, .inl (SqL.of hq3), rfl, _, rfl, ifT (decide_eq_true rfl) ?_⟩
      refine ⟨_, rfl, _, rfl, _, rfl, q, _, _, _, rfl, rfl, SqL.of hq3, atI_0, Chg.rename n k2, m, k2, rfl, rfl, trivial, hc, hm, fun H4 t s4 ht => k H4 t (s13.trans s4) ht⟩
    | dfl n d =>
      refine ⟨_, rfl, rfl, _, rfl, ifF (decide_eq_false (ksn (a := "default") (by decide +kernel))) ?_⟩
      refine ⟨_, rfl, q, _, rfl, .inl (SqL.of hq3), rfl, _, rfl, ifT (decide_eq_true rfl) ?_⟩
      refine ⟨_, rfl, _, rfl, _, rfl, q, _, _, _, rfl, rfl, SqL.of hq3, atI_0, Chg.dfl n d, m, vtS d, rfl, rfl, trivial, hc, hm, fun H4 t s4 ht => k H4 t (s13.trans s4) ht⟩
    | fill n i =>
      refine ⟨_, rfl, rfl, _, rfl, ifF (decide_eq_false (ksn (a := "fill") (by decide +kernel))) ?_⟩
      refine ⟨_, rfl, q, _, rfl, .inl (SqL.of hq3), rfl, _, rfl, ifT (decide_eq_true rfl) ?_⟩
      refine ⟨_, rfl, _, rfl, _, rfl, q, _, _, _, rfl, rfl, SqL.of hq3, atI_0, Chg.fill n i, m, numS i, rfl, rfl, trivial, hc, hm, fun H4 t s4 ht => k H4 t (s13.trans s4) ht⟩
    | add n g d =>
      obtain ⟨h1, h2, h3⟩ := hc
      have hd : ValO 99 d := h3.mono hm
      refine ⟨_, rfl, rfl, _, rfl, ifF (decide_eq_false (ksn (a := "add") (by decide +kernel))) ?_⟩
      refine ⟨_, rfl, q, _, rfl, .inl (SqL.of hq3), rfl, _, rfl, ifF (by rfl) ?_⟩
      refine ⟨_, rfl, q, _, rfl, .inl (SqL.of hq3), rfl, _, rfl, ifF (by rfl) ?_⟩
      refine ⟨_, rfl, q, _, _, _, rfl, rfl, SqL.of hq3, atI_0, g, rfl, h2.1, by omega, fun H4 s4 => ⟨_, rfl, iteF ?_⟩⟩
      have hq4 := s4 _ _ hq3
      refine ⟨_, rfl, rfl, _, rfl, ifT (decide_eq_true rfl) ?_⟩
      refine ⟨_, rfl, q, _, _, .str (vtS d), rfl, rfl, SqL.of hq4, rfl, d, rfl, hd, fun H5 s5 => ⟨_, rfl, iteT ?_⟩⟩
      have hq5 := s5 _ _ hq4
      refine ⟨_, rfl, _, rfl, q, _, _, _, rfl, rfl, SqL.of hq5, atI_0, _, g, rfl, num_int (by omega) (by omega), num_len (by omega) (by omega), _, rfl, q, _, _, .str (vtS d), rfl, rfl, SqL.of hq5, rfl, d, rfl, hd, (by show 4 ≤ sizeLine; decide), fun t ht => ?_⟩
      exact k _ t (s13.trans (s4.trans (s5.trans (Same.new ht)))) upd_same
    | grt n g ww =>
      obtain ⟨h1, h2, h3⟩ := hc
      refine ⟨_, rfl, rfl, _, rfl, ifF (decide_eq_false (ksn (a := "greatest") (by decide +kernel))) ?_⟩
      refine ⟨_, rfl, q, _, rfl, .inl (SqL.of hq3), rfl, _, rfl, ifF (by rfl) ?_⟩
      refine ⟨_, rfl, q, _, rfl, .inl (SqL.of hq3), rfl, _, rfl, ifF (by rfl) ?_⟩
      refine ⟨_, rfl, q, _, _, _, rfl, rfl, SqL.of hq3, atI_0, g, rfl, h2.1, by omega, fun H4 s4 => ⟨_, rfl, iteF ?_⟩⟩
      have hq4 := s4 _ _ hq3
      refine ⟨_, rfl, rfl, _, rfl, ifF (decide_eq_false (ksn (a := "greatest") (by decide +kernel))) ?_⟩
      refine ⟨_, rfl, rfl, _, rfl, ifT (decide_eq_true rfl) ?_⟩
      have hin : inV (.str ww) [V.str "cut", .str "none", .str "refuse"] = true := by
        rcases h3 with rfl | rfl | rfl <;> decide +kernel
      refine ⟨_, rfl, q, _, _, .str ww, rfl, rfl, SqL.of hq4, rfl, wt, _, rfl, .inr (hW H4), rfl, (by decide +kernel), _, rfl, ifT hin ?_⟩
      refine ⟨_, rfl, _, rfl, q, _, _, _, rfl, rfl, SqL.of hq4, atI_0, _, g, rfl, num_int (by omega) (by omega), num_len (by omega) (by omega), _, rfl, q, _, _, .str ww, rfl, rfl, SqL.of hq4, rfl, (by show 4 ≤ sizeLine; decide), fun t ht => ?_⟩
      exact k _ t (s13.trans (s4.trans (Same.new ht))) upd_same
/-! ### column_in -/
def spColumnIn : Sp := fun vs H Q _ => ∃ (l : Addr) (c : Col) (m : Int), vs = [.ref l] ∧ H l = some (.lst (c.words.map V.str)) ∧ ColOk m c ∧ m ≤ 99 ∧ ∀ H' t, Same H H' → H' t = some (.tup [.str c.name, .int c.most, vO c.dflt]) → Q (.ref t) H'
theorem sc_column_in : FnScope ["words"] ["words"] (defScope s_column_in) := ⟨rfl, rfl, rfl, by decide +kernel, rfl, by decide +kernel, by decide +kernel⟩
theorem ok_column_in (T : Txt K mg w C CH) : Cal P w K mg base 3 "column_in" spColumnIn [] := by
  refine cal_of T.d_column_in sc_column_in (fun _ _ _ _ _ _ us hl => match us, hl with | [_], _ => rfl) (fun vs H Q E h => ?_) (fun f cdv A outer s H vs Q E hr h => ?_)
  · obtain ⟨_, _, _, rfl, _⟩ := h
    rfl
  · obtain ⟨l, c, m, rfl, hl, hc, hm, k⟩ := h
    refine ⟨_, pss_cons (ps_if (PW.pt (pw_or (pt_cmpR op_ne (pe_callB call_len_seq rfl T.b_len PySem.boot_len (pa_cons (pv 0) pa_nil)) pe_int (nomark _)) (pw_or (pt_cmpR op_ne (pe_ix ix_list (pv 0) pe_int (fun _ _ => rfl)) pe_str (nomark _)) (pw_or1 (pt_not (pt_val (C8.pe_c (ok_is_name T) hr (by decide) rfl (pa_cons (pe_ix ix_list (pv 0) pe_int (fun _ _ => rfl)) pa_nil)))))))) (pss_one (ps_ret pe_non)) pss_nil)
      (pss_cons (ps_if (PW.pt (pw_or (pt_not (pt_val (C8.pe_c (ok_is_greatest_word T) hr (by decide) rfl (pa_cons (pe_ix ix_list (pv 0) pe_int (fun _ _ => rfl)) pa_nil)))) (pw_or1 (pt_not (pt_val (C8.pe_c (ok_is_value_word T) hr (by decide) rfl (pa_cons (pe_ix ix_list (pv 0) pe_int (fun _ _ => rfl)) pa_nil))))))) (pss_one (ps_ret pe_non)) pss_nil)
      (pss_one (ps_ret (pe_tup (pa_cons (pe_ix ix_list (pv 0) pe_int (fun _ _ => rfl)) (pa_cons (pe_callTy call_int_str rfl T.b_int boot_int (pa_cons (pe_ix ix_list (pv 0) pe_int (fun _ _ => rfl)) pa_nil)) (pa_cons (C8.pe_c (ok_value_in T) hr (by decide) rfl (pa_cons (pe_ix ix_list (pv 0) pe_int (fun _ _ => rfl)) pa_nil)) pa_nil))))))), ?_⟩
    have h2 := hc.most
    have hd : ValO 99 c.dflt := hc.dflt.mono (by omega)
    refine ⟨_, rfl, l, _, rfl, .inl (SqL.of hl), rfl, _, rfl, ifF (by rfl) ?_⟩
    refine ⟨_, rfl, l, _, _, _, rfl, rfl, SqL.of hl, atI_0, rfl, _, rfl, ifF (by rfl) ?_⟩
    refine ⟨_, rfl, l, _, _, .str c.name, rfl, rfl, SqL.of hl, rfl, _, rfl, hc.name.ok, fun H1 s1 => ⟨_, rfl, iteF ?_⟩⟩
    have hl1 := s1 _ _ hl
    refine ⟨_, rfl, l, _, _, .str (numS c.most), rfl, rfl, SqL.of hl1, rfl, c.most, rfl, h2.1, by omega, fun H2 s2 => ⟨_, rfl, iteF ?_⟩⟩
    have hl2 := s2 _ _ hl1
    refine ⟨_, rfl, l, _, _, .str (vtS c.dflt), rfl, rfl, SqL.of hl2, rfl, c.dflt, rfl, hd, fun H3 s3 => ⟨_, rfl, iteF ?_⟩⟩
    have hl3 := s3 _ _ hl2
    refine ⟨_, rfl, l, _, _, .str c.name, rfl, rfl, SqL.of hl3, rfl, _, rfl, l, _, _, .str (numS c.most), rfl, rfl, SqL.of hl3, rfl, _, c.most, rfl, num_int (by omega) (by omega), num_len (by omega) (by omega), _, rfl, l, _, _, .str (vtS c.dflt), rfl, rfl, SqL.of hl3, rfl, c.dflt, rfl, hd, (by show 3 ≤ sizeLine; decide), fun t ht => ?_⟩
    exact k _ t (s1.trans (s2.trans (s3.trans (Same.new ht)))) upd_same
/-! ### read_change -/
def spReadChange : Sp := fun vs H Q _ => ∃ (c : Chg) (m : Int), vs = [.str c.text] ∧ ChgOk m c ∧ m ≤ 99 ∧ ∀ H' t, Same H H' → H' t = some (.tup c.vals) → Q (.ref t) H'
theorem sc_read_change : FnScope ["text", "found"] ["text"] (defScope s_read_change) := ⟨rfl, rfl, rfl, by decide +kernel, rfl, by decide +kernel, by decide +kernel⟩
theorem ok_read_change (T : Txt K mg w C CH) : Cal P w K mg base 5 "read_change" spReadChange [] := by
  refine cal_of T.d_read_change sc_read_change (fun _ _ _ _ _ _ us hl => match us, hl with | [_], _ => rfl) (fun vs H Q E h => ?_) (fun f cdv A outer s H vs Q E hr h => ?_)
  · obtain ⟨_, _, rfl, _⟩ := h
    rfl
  · obtain ⟨c, m, rfl, hc, hm, k⟩ := h
    refine ⟨_, pss_cons (ps_set (i := 1) sc_read_change.nd rfl (Or.inl rfl) (pe_ifExp (pt_val (pe_callB call_isTyp rfl T.b_isinstance boot_isinstance (pa_cons (pv 0) (pa_cons (pTy T.b_str boot_str) pa_nil)))) (C8.pe_c (ok_change_in T) hr (by decide) rfl (pa_cons (pe_split (pv 0) pe_str) pa_nil)) pe_non))
      (pss_cons (ps_if (pt_cmpR op_isN (pv 1) pe_non (nomark _)) (pss_one ps_never) pss_nil)
      (pss_one (ps_ret (pv 1)))), ?_⟩
    refine ⟨_, rfl, _, _, _, _, rfl, ty_s _, kit_ss, _, rfl, iteT ?_⟩
    refine ⟨_, rfl, ⟨_, rfl⟩, _, _, rfl, rfl, (by decide +kernel), ?_, fun p hp => ?_⟩
    · have := chg_len hc hm
      exact small_le (by omega)
    · rw [chg_split hc hm, wv_eq]
      refine ⟨p, c, m, rfl, upd_same, hc, hm, fun H2 t s2 ht => ?_⟩
      exact ⟨_, rfl, rfl, _, rfl, ifF rfl ⟨_, rfl, k H2 t ((Same.new hp).trans s2) ht⟩⟩
end
end Ed
/-! Editionrows: texts.py, last part: a history and a telling, read. -/
namespace Ed
open PySem PySem.Spec PyProof.Rows L2
def ColT (c : Col) (v : V) (H : Hp) : Prop := ∃ t, v = .ref t ∧ H t = some (.tup [.str c.name, .int c.most, vO c.dflt])
theorem ColT.keep (c : Col) (v : V) (H H' : Hp) (k : Keep H H') (h : ColT c v H) : ColT c v H' := by
  obtain ⟨t, e, h⟩ := h
  exact ⟨t, e, k _ _ trivial h⟩
section
variable {P : Program} {w : World} {K : PySem.W.Frag} {mg : Str → Option Value} {base : Heap} {C CH : Addr}
/-! ### read_history -/
def spReadHistory (C CH : Addr) : Sp := fun vs H Q _ => ∃ (cols : List Col) (cs : List Chg), vs = [.str (histText cols cs)] ∧ HistOk cols cs ∧ ∀ H' a, Same H H' → HistAt C CH H' a cols cs → Q (.ref a) H'
theorem sc_read_history : FnScope ["text", "columns", "changes", "index", "row", "words", "found", "made", "name", "greatest", "default"] ["text"] (defScope s_read_history) := ⟨rfl, rfl, rfl, by decide +kernel, rfl, by decide +kernel, by decide +kernel⟩
theorem ok_read_history (T : Txt K mg w C CH) : Cal P w K mg base 12 "read_history" (spReadHistory C CH) [] := by
  refine cal_of T.d_read_history sc_read_history (fun _ _ _ _ _ _ us hl => match us, hl with | [_], _ => rfl) (fun vs H Q E h => ?_) (fun f cdv A outer s H vs Q E hr h => ?_)
  · obtain ⟨_, _, rfl, _⟩ := h
    rfl
  · obtain ⟨cols, cs, rfl, ho, k⟩ := h
    refine ⟨_, pss_cons (ps_if (pt_not (pt_val (pe_callB call_isTyp rfl T.b_isinstance boot_isinstance (pa_cons (pv 0) (pa_cons (pTy T.b_str boot_str) pa_nil))))) (pss_one ps_never) pss_nil)
      (pss_cons (ps_par (i := 1) (j := 2) rfl sc_read_history.nd rfl rfl (by decide) rfl rfl (pa_cons (pe_lst pa_nil) (pa_cons (pe_lst pa_nil) pa_nil)) (by rfl))
      (pss_cons (ps_for PassesOwn.never rfl (pi_enum (by rfl) T.b_enumerate (pa_cons (pe_split (pv 0) pe_str) pa_nil)) (pg_tup rfl (pgs_cons (pg_name (i := 3) sc_read_history.nd rfl (Or.inl rfl)) (pgs_cons (pg_name (i := 4) sc_read_history.nd rfl (Or.inl rfl)) pgs_nil)))
        (pss_cons (ps_set (i := 5) sc_read_history.nd rfl (Or.inl rfl) (pe_split (pv 4) pe_str))
        (pss_cons (ps_set (i := 6) sc_read_history.nd rfl (Or.inl rfl) (pe_ifExp (PW.pt (pw_and (pt_cmpR op_eq (pe_ix ix_list (pv 5) pe_int (fun _ _ => rfl)) pe_str (nomark _)) (pw_and1 (pt_cmpR (op_eqD hr.units) (pv 2) (pe_lst pa_nil) (nomark _)))))
            (C8.pe_c (ok_column_in T) hr (by decide) rfl (pa_cons (pv 5) pa_nil)) (C8.pe_c (ok_change_in T) hr (by decide) rfl (pa_cons (pv 5) pa_nil))))
        (pss_cons (ps_if (pt_cmpR op_isN (pv 6) pe_non (nomark _)) (pss_one ps_never) pss_nil)
        (pss_one (ps_if (pt_cmpR op_eq (pe_ix ix_list (pv 5) pe_int (fun _ _ => rfl)) pe_str (nomark _))
            (pss_one (ps_expr (pe_bm PySem.F.plainAttrs_list PySem.F.slot_list_append PySem.F.type_list_append mt_append (pv 1) (pa_cons (pv 6) pa_nil))))
            (pss_one (ps_expr (pe_bm PySem.F.plainAttrs_list PySem.F.slot_list_append PySem.F.type_list_append mt_append (pv 2) (pa_cons (pv 6) pa_nil))))))))))
      (pss_cons (ps_setLc (i := 7) (own := [("name", 8), ("greatest", 9), ("default", 10)]) (g := gTup K 3 (gCons (gName 8) (gCons (gName 9) (gCons (gName 10) gNil)))) (tt := tYes) (te := tMake C (spColInit C) [.int 0] E0 (tCons (tVar 8) (tCons (tVar 9) (tCons (tVar 10) tNil)))) (by rfl) sc_read_history.nd rfl rfl (sw_true rfl rfl rfl (by decide +kernel)) (pi_list (pv 1))
          (blkOk_by (own := [("name", 8), ("greatest", 9), ("default", 10)]) (N := ["text", "columns", "changes", "index", "row", "words", "found", "made", "name", "greatest", "default"]) (sc := defScope s_read_history) (by decide +kernel))
          (fun _ _ _ _ _ => pg_tup rfl (pgs_cons (pg_name (i := 8) sc_read_history.nd rfl (Or.inl rfl)) (pgs_cons (pg_name (i := 9) sc_read_history.nd rfl (Or.inl rfl)) (pgs_cons (pg_name (i := 10) sc_read_history.nd rfl (Or.inl rfl)) pgs_nil))))
          (fun _ _ _ _ _ => pts_nil) (fun _ _ _ _ _ => pe_col3 T hr (by decide) (pa_cons (pv 8) (pa_cons (pv 9) (pa_cons (pv 10) pa_nil)))))
      (pss_one (ps_ret (pe_hist T hr (by decide) (pa_cons (pv 7) (pa_cons (pv 2) pa_nil)))))))), ?_⟩
    have hlen : (histText cols cs).length + 2 ≤ sizeLine := by
      have := hist_len (m := 3) (by decide) ho.co.each ho.ok
      have := ho.co.most
      have := ho.len
      refine small_le ?_
      have : (cols.length + cs.length) * 37 ≤ 46 * 37 := Nat.mul_le_mul_right _ (by omega)
      omega
    refine ⟨_, rfl, _, _, _, _, rfl, ty_s _, kit_ss, _, rfl, iteF ?_⟩
    refine ⟨(by show 0 ≤ sizeLine; decide), fun cl hcl => ⟨(by show 0 ≤ sizeLine; decide), fun ch hch => ⟨_, _, rfl, ?_⟩⟩⟩
    have hchH : H ch = none := (Same.new hcl).free hch
    have hcc : cl ≠ ch := ne_of_none (upd_same (H := H) (a := cl) (o := .lst [])) hch
    have s2 : Same H (upd (upd H cl (.lst [])) ch (.lst [])) := Same.upd (Same.new hcl) hchH
    refine ⟨_, rfl, ⟨_, rfl⟩, _, _, rfl, rfl, (by decide +kernel), hlen, fun r hrn => ?_⟩
    rw [hist_split (m := 3) (by decide) ho.ne ho.co.each ho.ok]
    have hrH : H r = none := s2.free hrn
    have hcr : cl ≠ r := ne_of_none (H := upd (upd H cl (.lst [])) ch (.lst [])) (o := .lst []) (by rw [upd_ne hcc]; exact upd_same) hrn
    have hhr : ch ≠ r := ne_of_none (H := upd (upd H cl (.lst [])) ch (.lst [])) (o := .lst []) upd_same hrn
    have rl : ((cols.map Col.text ++ cs.map Chg.text).map V.str).length = cols.length + cs.length := by rw [List.length_map, List.length_append, List.length_map, List.length_map]
    refine ⟨r, _, rfl, SqL.of upd_same, ?_⟩
    refine for_it walk_enum (fun i σ H' => ∃ (a b x5 x6 : Option V) (us ts : List V), σ = [some (.str (histText cols cs)), some (.ref cl), some (.ref ch), a, b, x5, x6, none, none, none, none] ∧ Same H H' ∧
        H' cl = some (.lst us) ∧ ItemsAt ColT (cols.take i) us H' ∧ H' ch = some (.lst ts) ∧ ItemsAt ChgT (cs.take (i - cols.length)) ts H' ∧ H' r = some (.lst ((cols.map Col.text ++ cs.map Chg.text).map V.str)))
      ⟨none, none, none, none, [], [], rfl, Same.upd s2 hrH, by rw [upd_ne hcr, upd_ne hcc]; exact upd_same, ItemsAt.nil, by rw [upd_ne hhr]; exact upd_same, by rw [Nat.zero_sub]; exact ItemsAt.nil, upd_same⟩
      (fun i σ H' _ ⟨_, _, _, _, _, _, _, _, _, _, _, _, hR⟩ => SqL.of hR) ?_ ?_
    · rintro i x σ H2 H3 hi ⟨a, b, x5, x6, us, ts, rfl, t2, hcl2, iu, hch2, it, hr2⟩ ⟨t, x1, x2, rfl, ht, rfl, e1, e2⟩
      have e1 := Option.some.inj e1
      subst e1
      rw [rl] at hi
      have e2 : ((cols.map Col.text ++ cs.map Chg.text).map V.str)[i]? = some x2 := e2
      have s3 : Same H2 (upd H2 t (.tup [.int (i : Nat), x2])) := Same.new ht
      refine ⟨t, _, rfl, SqT.of upd_same, rfl, _, _, rfl, _, _, rfl, rfl, ?_⟩
      by_cases hin : i < cols.length
      · -- a column
        have hc := List.getElem?_eq_getElem hin
        generalize cols[i] = c at hc
        have hmem := List.mem_of_getElem? hc
        have hx2 : x2 = .str c.text := by
          rw [List.getElem?_map, List.getElem?_append_left (by rw [List.length_map]; exact hin), List.getElem?_map, hc] at e2
          exact (Option.some.inj e2).symm
        subst hx2
        have hck := ho.co.each c hmem
        refine ⟨_, rfl, ⟨_, rfl⟩, _, _, rfl, rfl, (by decide +kernel), ?_, fun p hp => ?_⟩
        · have := col_len hck (by decide)
          exact small_le (by omega)
        rw [col_split hck (by decide)]
        have s4 : Same (upd H2 t (.tup [.int (i : Nat), .str c.text])) (upd (upd H2 t (.tup [.int (i : Nat), .str c.text])) p (.lst (c.words.map V.str))) := Same.new hp
        have s24 := s3.trans s4
        have hpp := upd_same (H := upd H2 t (.tup [.int (i : Nat), .str c.text])) (a := p) (o := .lst (c.words.map V.str))
        generalize upd (upd H2 t (.tup [.int (i : Nat), .str c.text])) p (.lst (c.words.map V.str)) = H4 at s4 s24 hpp
        have hz : ts = [] := by
          have := it.len
          rw [show i - cols.length = 0 by omega] at this
          exact List.eq_nil_of_length_eq_zero this
        subst hz
        refine ⟨_, rfl, p, _, _, .str "column", rfl, rfl, SqL.of hpp, atI_0, rfl, _, rfl, ifT (decide_eq_true rfl) ?_⟩
        refine ⟨_, rfl, (by show 0 ≤ sizeLine; decide), fun q hq => ?_⟩
        have s5 : Same H4 (upd H4 q (.lst [])) := Same.new hq
        refine ⟨.list [], .list [], .lst (SqL.of (s5 _ _ (s24 _ _ hch2))) .nil, .lst (SqL.of upd_same) .nil, rfl, rfl, _, rfl, ifT rfl ?_⟩
        refine ⟨_, rfl, p, c, 3, rfl, s5 _ _ hpp, hck, by decide, fun H6 y s6 hy => ?_⟩
        have s56 := s5.trans s6
        have s26 := s24.trans s56
        refine ⟨_, rfl, rfl, _, rfl, ifF rfl ?_⟩
        refine ⟨_, rfl, p, _, _, .str "column", rfl, rfl, SqL.of (s56 _ _ hpp), atI_0, rfl, _, rfl, ifT (decide_eq_true rfl) ?_⟩
        refine ⟨_, rfl, .inl ⟨rfl, _, SqL.of (s26 _ _ hcl2)⟩, _, rfl, ?_⟩
        refine ⟨cl, _, _, rfl, rfl, s26 _ _ hcl2, small_lt (by have := iu.len; rw [List.length_take] at this; have := ho.co.most; omega), ?_⟩
        have kp : Keep H6 (upd H6 cl (.lst (us ++ [.ref y]))) := Keep.lst (s26 _ _ hcl2)
        refine ⟨_, _, _, _, us ++ [.ref y], [], rfl, Same.upd (t2.trans s26) hcl, upd_same, ?_, by rw [upd_ne hcc.symm]; exact s26 _ _ hch2, ?_, by rw [upd_ne hcr.symm]; exact s26 _ _ hr2⟩
        · rw [List.take_add_one, hc]
          exact ((iu.keep ColT.keep s26.keep).snoc (x := c) (v := V.ref y) ⟨y, rfl, hy⟩).keep ColT.keep kp
        · rw [show i + 1 - cols.length = 0 by omega]
          exact ItemsAt.nil
      · -- a change
        have hj : i - cols.length < cs.length := by omega
        have hc := List.getElem?_eq_getElem hj
        generalize cs[i - cols.length] = c at hc
        have hmem := List.mem_of_getElem? hc
        have hx2 : x2 = .str c.text := by
          rw [List.getElem?_map, List.getElem?_append_right (by rw [List.length_map]; omega), List.length_map, List.getElem?_map, hc] at e2
          exact (Option.some.inj e2).symm
        subst hx2
        have hck := ho.ok c hmem
        refine ⟨_, rfl, ⟨_, rfl⟩, _, _, rfl, rfl, (by decide +kernel), ?_, fun p hp => ?_⟩
        · have := chg_len hck (by decide)
          exact small_le (by omega)
        rw [chg_split hck (by decide), wv_eq]
        have s4 : Same (upd H2 t (.tup [.int (i : Nat), .str c.text])) (upd (upd H2 t (.tup [.int (i : Nat), .str c.text])) p (.lst (wv c))) := Same.new hp
        have s24 := s3.trans s4
        have hpp := upd_same (H := upd H2 t (.tup [.int (i : Nat), .str c.text])) (a := p) (o := .lst (wv c))
        generalize upd (upd H2 t (.tup [.int (i : Nat), .str c.text])) p (.lst (wv c)) = H4 at s4 s24 hpp
        refine ⟨_, rfl, p, _, _, .str c.kind, rfl, rfl, SqL.of hpp, atI_0, rfl, _, rfl, ifF (decide_eq_false (ksn (kind_col c))) ?_⟩
        refine ⟨_, rfl, p, c, 3, rfl, hpp, hck, by decide, fun H6 y s6 hy => ?_⟩
        have s26 := s24.trans s6
        refine ⟨_, rfl, rfl, _, rfl, ifF rfl ?_⟩
        refine ⟨_, rfl, p, _, _, .str c.kind, rfl, rfl, SqL.of (s6 _ _ hpp), atI_0, rfl, _, rfl, ifF (decide_eq_false (ksn (kind_col c))) ?_⟩
        refine ⟨_, rfl, .inl ⟨rfl, _, SqL.of (s26 _ _ hch2)⟩, _, rfl, ?_⟩
        refine ⟨ch, _, _, rfl, rfl, s26 _ _ hch2, small_lt (by have := it.len; rw [List.length_take] at this; have := ho.len; omega), ?_⟩
        have kp : Keep H6 (upd H6 ch (.lst (ts ++ [.ref y]))) := Keep.lst (s26 _ _ hch2)
        refine ⟨_, _, _, _, us, ts ++ [.ref y], rfl, Same.upd (t2.trans s26) hchH, by rw [upd_ne hcc]; exact s26 _ _ hcl2, ?_, upd_same, ?_, by rw [upd_ne hhr.symm]; exact s26 _ _ hr2⟩
        · rw [show cols.take (i + 1) = cols.take i by rw [List.take_of_length_le (by omega), List.take_of_length_le (by omega)]]
          exact (iu.keep ColT.keep s26.keep).keep ColT.keep kp
        · rw [show i + 1 - cols.length = (i - cols.length) + 1 by omega, List.take_add_one, hc]
          exact ((it.keep ChgT.keep s26.keep).snoc (x := c) (v := V.ref y) ⟨y, rfl, hy⟩).keep ChgT.keep kp
    · rintro σ H2 ⟨a, b, x5, x6, us, ts, rfl, t2, hcl2, iu, hch2, it, hr2⟩
      rw [rl, List.take_of_length_le (by omega)] at iu
      rw [rl, show cols.length + cs.length - cols.length = cs.length by omega, List.take_length] at it
      refine ⟨_, rfl, cl, rfl, ⟨_, SqL.of hcl2⟩, fun D hD => ?_⟩
      refine lc_map walk_list (fun i v H' => ∀ c, cols[i]? = some c → ColN C c v H') (fun i v H3 H4 kk q c e => ColN.keep _ _ _ _ kk (q c e)) (by have := iu.len; have := ho.co.most; omega) hD (fun H3 s3 => s3.seq (SqL.of hcl2)) (fun i x H3 H' Kt hi s3 y kt => ?_) (fun H3 acc s3 hD3 hl3 hr3 => ?_)
      · obtain ⟨rfl, hx⟩ := y
        obtain ⟨c, hc, rc⟩ := iu.get hx
        obtain ⟨t, rfl, ht⟩ := ColT.keep _ _ _ _ s3.keep rc
        have cv := (ho.co.each c (List.mem_of_getElem? hc)).v (by decide) (n := 0) (by decide)
        refine ⟨t, _, rfl, SqT.of ht, rfl, _, _, rfl, _, _, rfl, _, _, rfl, rfl, ?_⟩
        refine ⟨rfl, ?_⟩
        refine ⟨_, rfl, _, rfl, _, rfl, ?_⟩
        exact col3_fin cv fun H4 z s4 _ h4 => kt _ H4 s4 fun c' e' => by
          rw [hc] at e'
          rw [← Option.some.inj e']
          exact ⟨0, by decide, h4⟩
      · refine ⟨_, rfl, _, rfl, ?_⟩
        have hA : HArgs C H3 D ch acc ts cols cs := ⟨hD3, ⟨by rw [hl3, iu.len], fun i c v h1 h2 => hr3 i v h2 c h1⟩, s3 _ _ hch2, it.keep ChgT.keep s3.keep, ho.co, ho.ne, ho.ch, ho.ok, ho.len⟩
        exact hist_fin hA fun H4 z s4 _ h4 => k H4 z (t2.trans (s3.trans s4)) h4
/-! ### told_in, read_told -/
def spToldIn : Sp := fun vs H Q _ => ∃ (l : Addr) (t : List (Str × Option Int)), vs = [.ref l] ∧ H l = some (.lst ((toldWords t).map V.str)) ∧ ToldOk t ∧ ∀ H' d, Same H H' → H' d = some (.dK (tkv t)) → Q (.ref d) H'
theorem sc_told_in : FnScope ["words", "found", "name", "word"] ["words"] (defScope s_told_in) := ⟨rfl, rfl, rfl, by decide +kernel, rfl, by decide +kernel, by decide +kernel⟩
theorem ok_told_in (T : Txt K mg w C CH) : Cal P w K mg base 3 "told_in" spToldIn [] := by
  refine cal_of T.d_told_in sc_told_in (fun _ _ _ _ _ _ us hl => match us, hl with | [_], _ => rfl) (fun vs H Q E h => ?_) (fun f cdv A outer s H vs Q E hr h => ?_)
  · obtain ⟨_, _, rfl, _⟩ := h
    rfl
  · obtain ⟨l, t, rfl, hl, ho, k⟩ := h
    have hu := hu_of hr
    refine ⟨_, pss_cons (ps_if (pt_cmpR op_ne (pe_op op_mod (pe_callB call_len_seq rfl T.b_len PySem.boot_len (pa_cons (pv 0) pa_nil)) pe_int) pe_int (nomark _)) (pss_one (ps_ret pe_non)) pss_nil)
      (pss_cons (ps_set (i := 1) sc_told_in.nd rfl (Or.inl rfl) pe_dnewK)
      (pss_cons (ps_for PassesOwn.never rfl (pi_zip rfl T.b_zip (pa_cons (pe_evens (pv 0)) (pa_cons (pe_odds (pv 0)) pa_nil))) (pg_tup rfl (pgs_cons (pg_name (i := 2) sc_told_in.nd rfl (Or.inl rfl)) (pgs_cons (pg_name (i := 3) sc_told_in.nd rfl (Or.inl rfl)) pgs_nil)))
        (pss_cons (ps_if (PW.pt (pw_or (pt_not (pt_val (C8.pe_c (ok_is_name T) hr (by decide) rfl (pa_cons (pv 2) pa_nil)))) (pw_or (pt_not (pt_val (C8.pe_c (ok_is_value_word T) hr (by decide) rfl (pa_cons (pv 3) pa_nil)))) (pw_or1 (pt_cmp (pc_din hu (pv 2) (pv 1))))))) (pss_one (ps_ret pe_non)) pss_nil)
        (pss_one (ps_dput hu (pv 1) (pv 2) (C8.pe_c (ok_value_in T) hr (by decide) rfl (pa_cons (pv 3) pa_nil)) rfl))))
      (pss_one (ps_ret (pv 1))))), ?_⟩
    have wl : ((toldWords t).map V.str).length = 2 * t.length := by rw [List.length_map, told_wlen]
    refine ⟨_, rfl, l, _, rfl, .inl (SqL.of hl), _, 2, rfl, rfl, (show (0 : Int) < 2 by decide), rfl, _, rfl, ifF ?_ ?_⟩
    · rw [wl]
      show (!decide (V.int (((2 * t.length : Nat) : Int) % 2) = V.int 0)) = false
      have : ((2 * t.length : Nat) : Int) % 2 = 0 := by omega
      rw [this]
      rfl
    intro d hd
    have s1 : Same H (upd H d (.dK [])) := Same.new hd
    have hd1 := upd_same (H := H) (a := d) (o := .dK [])
    generalize upd H d (.dK []) = H1 at s1 hd1
    refine ⟨_, rfl, l, _, t.length, rfl, SqL.of (s1 _ _ hl), wl, fun p ys hp hyl hyg => ?_⟩
    have s2 : Same H1 (upd H1 p (.lst ys)) := Same.new hp
    have hpp := upd_same (H := H1) (a := p) (o := .lst ys)
    generalize upd H1 p (.lst ys) = H2 at s2 hpp
    refine ⟨_, rfl, l, _, t.length, rfl, SqL.of (s2 _ _ (s1 _ _ hl)), wl, fun q zs hq hzl hzg => ?_⟩
    have s3 : Same H2 (upd H2 q (.lst zs)) := Same.new hq
    have hqq := upd_same (H := H2) (a := q) (o := .lst zs)
    generalize upd H2 q (.lst zs) = H3 at s3 hqq
    have s13 := s1.trans (s2.trans s3)
    have hpd : p ≠ d := (ne_of_none hd1 hp).symm
    have hqd : q ≠ d := (ne_of_none (s2 _ _ hd1) hq).symm
    have hy : ∀ (i : Nat) (pr : Str × Option Int), t[i]? = some pr → ys[i]? = some (.str pr.1) ∧ zs[i]? = some (.str (vtS pr.2)) := fun i pr hpr => by
      have hi := (List.getElem?_eq_some_iff.mp hpr).1
      refine ⟨?_, ?_⟩
      · rw [hyg i hi]
        show ((toldWords t).map V.str)[0 + 2 * i]? = _
        rw [Nat.zero_add, List.getElem?_map, told_even, hpr]
        rfl
      · rw [hzg i hi]
        show ((toldWords t).map V.str)[1 + 2 * i]? = _
        rw [Nat.add_comm, List.getElem?_map, told_odd, hpr]
        rfl
    refine ⟨p, q, ys, zs, rfl, SqL.of (s3 _ _ hpp), SqL.of hqq, ?_⟩
    refine for_it (walk_zip (n := t.length) (by rw [hyl, hzl, Nat.min_self])) (fun i σ H' => ∃ a b, σ = [some (.ref l), some (.ref d), a, b] ∧ Same H H' ∧ H' p = some (.lst ys) ∧ H' q = some (.lst zs) ∧ H' d = some (.dK (tkv (t.take i))))
      ⟨_, _, rfl, s13, s3 _ _ hpp, hqq, s3 _ _ (s2 _ _ hd1)⟩ (fun i σ H' _ ⟨_, _, _, _, h1, h2, _⟩ => ⟨SqL.of h1, SqL.of h2⟩) ?_ ?_
    · rintro i x σ H4 H5 hi ⟨a, b, rfl, t4, hp4, hq4, hd4⟩ ⟨tt, x1, x2, rfl, ht, rfl, e1, e2⟩
      have hpr := List.getElem?_eq_getElem hi
      generalize t[i] = pr at hpr
      obtain ⟨g1, g2⟩ := hy i pr hpr
      have e1 : x1 = .str pr.1 := by
        have e1 : ys[i]? = some x1 := e1
        rw [g1] at e1
        exact (Option.some.inj e1).symm
      have e2 : x2 = .str (vtS pr.2) := by
        have e2 : zs[i]? = some x2 := e2
        rw [g2] at e2
        exact (Option.some.inj e2).symm
      subst e1 e2
      obtain ⟨hn, hv⟩ := ho.each pr (List.mem_of_getElem? hpr)
      have s5 : Same H4 (upd H4 tt (.tup [.str pr.1, .str (vtS pr.2)])) := Same.new ht
      refine ⟨tt, _, rfl, SqT.of upd_same, rfl, _, _, rfl, _, _, rfl, rfl, ?_⟩
      refine ⟨_, rfl, _, rfl, hn, fun H6 s6 => ⟨_, rfl, iteF ?_⟩⟩
      refine ⟨_, rfl, _, rfl, hv, fun H7 s7 => ⟨_, rfl, iteF ?_⟩⟩
      have s47 := s5.trans (s6.trans s7)
      have hd7 := s47 _ _ hd4
      have hnone : valV (tkv (t.take i)) (Sum.inr pr.1 : Key) = none := valV_no fun mm => by
        obtain ⟨z, hz, ez⟩ := List.mem_map.mp mm
        obtain ⟨p2, hp2, rfl⟩ := List.mem_map.mp hz
        have en : p2.1 = pr.1 := Sum.inr.inj ez
        obtain ⟨j, hj, ej⟩ := List.mem_iff_getElem.mp hp2
        have hj2 : j < i := by rw [List.length_take] at hj; omega
        have hx1 : (t.map (·.1))[j]? = some pr.1 := by
          rw [List.getElem?_map]
          have : t[j]? = some p2 := by
            rw [← ej, List.getElem_take]
            exact List.getElem?_eq_getElem _
          rw [this, ← en]
          rfl
        have hx2 : (t.map (·.1))[i]? = some pr.1 := by
          rw [List.getElem?_map, hpr]
          rfl
        have hji := nd_ix ho.nd hx1 hx2
        omega
      refine ⟨_, rfl, _, rfl, d, _, rfl, DGet.k (k := Sum.inr pr.1) hd7, _, rfl, ?_⟩
      rw [hnone]
      refine ifF rfl ?_
      refine ⟨_, rfl, pr.2, rfl, hv, _, rfl, _, rfl, d, _, rfl, DPut.k (k := Sum.inr pr.1) hd7 (small_lt ?_), ?_⟩
      · rw [tkv, List.length_map, List.length_take]
        have := ho.len
        omega
      · refine ⟨_, _, rfl, Same.upd (t4.trans s47) hd, by rw [upd_ne hpd]; exact s47 _ _ hp4, by rw [upd_ne hqd]; exact s47 _ _ hq4, ?_⟩
        rw [upd_same, putK_new _ hnone, List.take_add_one, hpr]
        show _ = some (HO.dK (tkv (t.take i ++ [pr])))
        unfold tkv
        rw [List.map_append]
        rfl
    · rintro σ H4 ⟨a, b, rfl, t4, hp4, hq4, hd4⟩
      rw [List.take_length] at hd4
      exact ⟨_, rfl, k H4 d t4 hd4⟩
def spReadTold : Sp := fun vs H Q _ => ∃ t : List (Str × Option Int), vs = [.str (toldText t)] ∧ ToldOk t ∧ ∀ H' d, Same H H' → H' d = some (.dK (tkv t)) → Q (.ref d) H'
theorem sc_read_told : FnScope ["text", "found"] ["text"] (defScope s_read_told) := ⟨rfl, rfl, rfl, by decide +kernel, rfl, by decide +kernel, by decide +kernel⟩
theorem ok_read_told (T : Txt K mg w C CH) : Cal P w K mg base 4 "read_told" spReadTold [] := by
  refine cal_of T.d_read_told sc_read_told (fun _ _ _ _ _ _ us hl => match us, hl with | [_], _ => rfl) (fun vs H Q E h => ?_) (fun f cdv A outer s H vs Q E hr h => ?_)
  · obtain ⟨_, rfl, _⟩ := h
    rfl
  · obtain ⟨t, rfl, ho, k⟩ := h
    refine ⟨_, pss_cons (ps_if (pt_not (pt_val (pe_callB call_isTyp rfl T.b_isinstance boot_isinstance (pa_cons (pv 0) (pa_cons (pTy T.b_str boot_str) pa_nil))))) (pss_one ps_never) pss_nil)
      (pss_cons (ps_set (i := 1) sc_read_told.nd rfl (Or.inl rfl) (C8.pe_c (ok_told_in T) hr (by decide) rfl (pa_cons (pe_ifExp (pt_cmpR op_ne (pv 0) pe_str (nomark _)) (pe_split (pv 0) pe_str) (pe_lst pa_nil)) pa_nil)))
      (pss_cons (ps_if (pt_cmpR op_isN (pv 1) pe_non (nomark _)) (pss_one ps_never) pss_nil)
      (pss_one (ps_ret (pv 1))))), ?_⟩
    refine ⟨_, rfl, _, _, _, _, rfl, ty_s _, kit_ss, _, rfl, iteF ?_⟩
    by_cases ht : t = []
    · subst ht
      refine ⟨_, rfl, rfl, _, rfl, ifF (by rfl) ?_⟩
      refine ⟨(by show 0 ≤ sizeLine; decide), fun p hp => ?_⟩
      refine ⟨p, [], rfl, upd_same, ho, fun H2 d s2 hd => ?_⟩
      exact ⟨_, rfl, rfl, _, rfl, ifF rfl ⟨_, rfl, k H2 d ((Same.new hp).trans s2) hd⟩⟩
    · refine ⟨_, rfl, rfl, _, rfl, ifT (by rw [decide_eq_false (ksn (told_ne ho ht))]; rfl) ?_⟩
      refine ⟨_, rfl, ⟨_, rfl⟩, _, _, rfl, rfl, (by decide +kernel), ?_, fun p hp => ?_⟩
      · have := told_len ho
        exact small_le (by omega)
      · rw [told_split ho ht]
        refine ⟨p, t, rfl, upd_same, ho, fun H2 d s2 hd => ?_⟩
        exact ⟨_, rfl, rfl, _, rfl, ifF rfl ⟨_, rfl, k H2 d ((Same.new hp).trans s2) hd⟩⟩
end
end Ed
/-! Editionrows: the law's own defs, first part: the pool and what is drawn from it. -/
namespace Ed
open PySem PySem.Spec PyProof.Rows L2
/-- a pool: two ints, the second small -/
def PoolAt (pl : Addr) (H : Hp) : Prop := ∃ a b : Int, H pl = some (.lst [.int a, .int b]) ∧ 0 ≤ b ∧ b < 2147483648
theorem PoolAt.same {pl : Addr} {H H' : Hp} (h : PoolAt pl H) (s : Same H H') : PoolAt pl H' := by
  obtain ⟨a, b, h1, h2⟩ := h
  exact ⟨a, b, s _ _ h1, h2⟩
theorem PoolAt.free {pl x : Addr} {H : Hp} (h : PoolAt pl H) (e : H x = none) : pl ≠ x := by
  obtain ⟨a, b, h1, h2⟩ := h
  exact ne_of_none h1 e
theorem PoolAt.other {pl x : Addr} {H : Hp} {o : HO} (h : PoolAt pl H) (e : pl ≠ x) : PoolAt pl (upd H x o) := by
  obtain ⟨a, b, h1, h2⟩ := h
  exact ⟨a, b, by rw [upd_ne e]; exact h1, h2⟩
theorem But.refl (p : Addr) (H : Hp) : But p H H := fun _ _ _ e => e
theorem But.trans {p : Addr} {H H1 H2 : Hp} (a : But p H H1) (b : But p H1 H2) : But p H H2 := fun c o n e => b c o n (a c o n e)
theorem _root_.L2.Same.but {H H' : Hp} (s : Same H H') (p : Addr) : But p H H' := fun c o _ e => s c o e
theorem But.free {p x : Addr} {H H' : Hp} (b : But p H H') (hn : p ≠ x) (e : H' x = none) : H x = none := by
  cases h : H x with
  | none => rfl
  | some o =>
    rw [b x o hn.symm h] at e
    cases e
theorem But.upd {p x : Addr} {H H' : Hp} {o : HO} (b : But p H H') (e : H x = none) : But p H (L2.upd H' x o) := fun c u n h => by
  rw [upd_ne (ne_of_none h e)]
  exact b c u n h
theorem But.set {p : Addr} {H : Hp} {o : HO} : But p H (L2.upd H p o) := fun c u n h => by
  rw [upd_ne n]
  exact h
/-- with the pool kept, tuples and instances are kept -/
theorem But.keep {p : Addr} {H H' : Hp} (b : But p H H') (h : PoolAt p H) : Keep H H' := fun c o i e => b c o (fun q => by
  obtain ⟨x, y, h1, _⟩ := h
  rw [q, h1] at e
  cases e
  exact i) e
section
variable {P : Program} {w : World} {K : PySem.W.Frag} {mg : Str → Option Value} {base : Heap} {C CH : Addr}
/-! ### the pool -/
def spPool (K : PySem.W.Frag) : Sp := fun vs H Q _ => ∃ (a : Addr) (ns : List Int) (i : Nat), vs = [.ref a, .int i] ∧ SqL K H a (ns.map V.int) ∧ i ≤ 2 ∧ ∀ H' pl, Same H H' → H pl = none → PoolAt pl H' → Q (.ref pl) H'
theorem sc_law_pool : FnScope ["_law_script", "_law_k", "_law_size", "_law_mixed"] ["_law_script", "_law_k"] (defScope s_law_pool) := ⟨rfl, rfl, rfl, by decide +kernel, rfl, by decide +kernel, by decide +kernel⟩
theorem ok_law_pool (T : Txt K mg w C CH) : Cal P w K mg base 1 "_law_pool" (spPool K) [] := by
  refine cal_of T.d_law_pool sc_law_pool (fun _ _ _ _ _ _ us hl => match us, hl with | [_, _], _ => rfl) (fun vs H Q E h => ?_) (fun f cdv A outer s H vs Q E hr h => ?_)
  · obtain ⟨_, _, _, rfl, _⟩ := h
    rfl
  · obtain ⟨a, ns, i, rfl, ha, hi, k⟩ := h
    refine ⟨_, pss_cons (ps_set (i := 2) sc_law_pool.nd rfl (Or.inl rfl) (pe_ifExp (pt_cmpR op_lt (pv 1) (pe_callB call_len_seq rfl T.b_len PySem.boot_len (pa_cons (pv 0) pa_nil)) (nomark _))
        (pe_callB (call_max2 (by rfl)) rfl T.b_max boot_max (pa_cons (pe_callTy call_int1 rfl T.b_int boot_int (pa_cons (pe_ix ix_list (pv 0) (pv 1) (fun _ _ => rfl)) pa_nil)) (pa_cons (pe_callTy call_int1 rfl T.b_int boot_int (pa_cons (pe_op op_sub (pe_un un_neg pe_int) (pe_ix ix_list (pv 0) (pv 1) (fun _ _ => rfl))) pa_nil)) pa_nil))) pe_int))
      (pss_cons (ps_set (i := 3) sc_law_pool.nd rfl (Or.inl rfl) (pe_op op_add (pe_op op_mod (pe_callTy call_int1 rfl T.b_int boot_int (pa_cons (pe_op op_mul (pe_op op_add (pe_op op_mod (pe_callTy call_int1 rfl T.b_int boot_int (pa_cons (pv 2) pa_nil)) pe_int) (pe_op op_mul pe_int (pe_op op_add (pv 1) pe_int))) pe_int) pa_nil)) pe_int) pe_int))
      (pss_one (ps_ret (pe_lst (pa_cons (pe_op op_mul (pv 2) (pe_callTy call_int1 rfl T.b_int boot_int (pa_cons (pe_cmpR op_ge (pv 2) (pe_op op_pow pe_int pe_int) (nomark _)) pa_nil)))
        (pa_cons (pe_op op_mod (pe_callTy call_int1 rfl T.b_int boot_int (pa_cons (pe_op op_mul (pv 3) (pv 3)) pa_nil)) pe_int) pa_nil)))))), ?_⟩
    have rest : ∀ z : Int, tSeq (tAsg (tOp (rI0 fun i j => .int (i + j)) (tOp (rI (fun _ j => 0 < j) fun i j => .int (i % j)) (tCB (fun xs H Q => (∃ i, xs = [.int i] ∧ Q (.int i) H) ∨ ∃ k, xs = [.bl k] ∧ Q (.int (if k then 1 else 0)) H) (tCons (tOp (rI CMul fun i j => .int (i * j)) (tOp (rI0 fun i j => .int (i + j)) (tOp (rI (fun _ j => 0 < j) fun i j => .int (i % j)) (tCB (fun xs H Q => (∃ i, xs = [.int i] ∧ Q (.int i) H) ∨ ∃ k, xs = [.bl k] ∧ Q (.int (if k then 1 else 0)) H) (tCons (tVar 2) tNil)) (tC (.int 2147483629))) (tOp (rI CMul fun i j => .int (i * j)) (tC (.int 104729)) (tOp (rI0 fun i j => .int (i + j)) (tVar 1) (tC (.int 1))))) (tC (.int 48271))) tNil)) (tC (.int 2147483629))) (tC (.int 1))) (gName 3))
        (tRet (tLst (tCons (tOp (rI CMul fun i j => .int (i * j)) (tVar 2) (tCB (fun xs H Q => (∃ i, xs = [.int i] ∧ Q (.int i) H) ∨ ∃ k, xs = [.bl k] ∧ Q (.int (if k then 1 else 0)) H) (tCons (tOp (rI0 fun i j => .bl (decide (j ≤ i))) (tVar 2) (tOp (rI CPow fun i j => .int (i ^ j.toNat)) (tC (.int 10)) (tC (.int 18)))) tNil)))
          (tCons (tOp (rI (fun _ j => 0 < j) fun i j => .int (i % j)) (tCB (fun xs H Q => (∃ i, xs = [.int i] ∧ Q (.int i) H) ∨ ∃ k, xs = [.bl k] ∧ Q (.int (if k then 1 else 0)) H) (tCons (tOp (rI CMul fun i j => .int (i * j)) (tVar 3) (tVar 3)) tNil)) (tC (.int 2147483629))) tNil)))) { nx := fun _ H' => Q .non H', rt := Q } [some (.ref a), some (.int i), some (.int z), none] H := fun z => by
      refine ⟨_, rfl, .inl ⟨_, rfl, _, _, rfl, rfl, (show (0 : Int) < 2147483629 by decide), ?_⟩⟩
      refine ⟨_, rfl, _, _, rfl, rfl, _, _, rfl, rfl, .inl ⟨by decide, by decide⟩, _, _, rfl, rfl, _, _, rfl, rfl, .inr ⟨by decide, by decide⟩, .inl ⟨_, rfl, _, _, rfl, rfl, (show (0 : Int) < 2147483629 by decide), _, _, rfl, rfl, ?_⟩⟩
      generalize hx : ((z % 2147483629 + 104729 * ((i : Int) + 1)) * 48271) % 2147483629 + 1 = x
      have hx0 : 1 ≤ x := by omega
      have hx1 : x ≤ 2147483629 := by omega
      refine ⟨_, rfl, _, rfl, _, _, rfl, rfl, ⟨by decide, by decide, by decide⟩, _, _, rfl, rfl, .inr ⟨_, rfl, _, _, rfl, rfl, ?_, ?_⟩⟩
      · exact .inr (by
          show -(2 ^ 64) < (if decide (10 ^ (18 : Int).toNat ≤ z) = true then (1 : Int) else 0) ∧ (if decide (10 ^ (18 : Int).toNat ≤ z) = true then (1 : Int) else 0) < 2 ^ 64
          split <;> decide)
      refine ⟨_, rfl, _, rfl, _, _, rfl, rfl, .inl ⟨by omega, by omega⟩, .inl ⟨_, rfl, _, _, rfl, rfl, (show (0 : Int) < 2147483629 by decide), (by show 2 ≤ sizeLine; decide), fun pl hp => ?_⟩⟩
      refine k _ pl (Same.new hp) hp ⟨_, _, upd_same, ?_, ?_⟩
      · exact Int.emod_nonneg _ (by decide)
      · have := Int.emod_lt_of_pos (x * x) (show (0 : Int) < 2147483629 by decide)
        omega
    refine ⟨_, rfl, _, rfl, a, _, rfl, .inl ha, _, _, rfl, rfl, _, rfl, ?_⟩
    by_cases hl : i < ns.length
    · have hg : atI (ns.map V.int) (i : Int) = some (.int ns[i]) := by
        unfold atI ixN
        rw [if_pos (by omega), if_pos (by rw [List.length_map]; omega)]
        show (ns.map V.int)[(i : Int).toNat]? = _
        rw [Int.toNat_natCast, List.getElem?_map, List.getElem?_eq_getElem hl]
        rfl
      refine ifT (decide_eq_true (by rw [List.length_map]; omega)) ?_
      refine ⟨_, rfl, _, rfl, a, _, _, _, rfl, rfl, ha, hg, .inl ⟨_, rfl, ?_⟩⟩
      refine ⟨1, rfl, _, rfl, _, rfl, a, _, _, _, rfl, rfl, ha, hg, _, _, rfl, rfl, .inl ⟨_, rfl, _, _, rfl, ?_⟩⟩
      exact rest _
    · exact ifF (decide_eq_false (by rw [List.length_map]; omega)) (rest 7)
/-! ### draws -/
def spDraw : Sp := fun vs H Q _ => ∃ (pl : Addr) (m : Int), vs = [.ref pl, .int m] ∧ PoolAt pl H ∧ 0 < m ∧ m < 1073741824 ∧ ∀ H' k, 0 ≤ k → k < m → But pl H H' → PoolAt pl H' → Q (.int k) H'
theorem sc_law_draw : FnScope ["_law_pool_here", "_law_many", "_law_found"] ["_law_pool_here", "_law_many"] (defScope s_law_draw) := ⟨rfl, rfl, rfl, by decide +kernel, rfl, by decide +kernel, by decide +kernel⟩
theorem ok_law_draw (T : Txt K mg w C CH) : Cal P w K mg base 1 "_law_draw" spDraw [] := by
  refine cal_of T.d_law_draw sc_law_draw (fun _ _ _ _ _ _ us hl => match us, hl with | [_, _], _ => rfl) (fun vs H Q E h => ?_) (fun f cdv A outer s H vs Q E hr h => ?_)
  · obtain ⟨_, _, rfl, _⟩ := h
    rfl
  · obtain ⟨pl, m, rfl, ⟨a, b, hp, hb0, hb1⟩, hm0, hm1, k⟩ := h
    refine ⟨_, pss_cons (ps_if (pt_cmpR op_gt (pe_ix ix_list (pv 0) pe_int (fun _ _ => rfl)) pe_int (nomark _))
        (pss_cons (ps_set (i := 2) sc_law_draw.nd rfl (Or.inl rfl) (pe_op op_mod (pe_callTy call_int1 rfl T.b_int boot_int (pa_cons (pe_ix ix_list (pv 0) pe_int (fun _ _ => rfl)) pa_nil)) (pv 1)))
        (pss_cons (ps_asg (pe_op op_fdiv (pe_ix ix_list (pv 0) pe_int (fun _ _ => rfl)) (pv 1)) (pg_sub (pv 0) pe_int set_list))
        (pss_one (ps_ret (pv 2))))) pss_nil)
      (pss_cons (ps_asg (pe_op op_mod (pe_callTy call_int1 rfl T.b_int boot_int (pa_cons (pe_op op_add (pe_op op_mul (pe_ix ix_list (pv 0) pe_int (fun _ _ => rfl)) pe_int) pe_int) pa_nil)) pe_int) (pg_sub (pv 0) pe_int set_list))
      (pss_one (ps_ret (pe_op op_mod (pe_callTy call_int1 rfl T.b_int boot_int (pa_cons (pe_op op_fdiv (pe_op op_mod (pe_callTy call_int1 rfl T.b_int boot_int (pa_cons (pe_op op_mul (pe_ix ix_list (pv 0) pe_int (fun _ _ => rfl)) (pe_ix ix_list (pv 0) pe_int (fun _ _ => rfl))) pa_nil)) pe_int) pe_int) pa_nil)) (pv 1))))), ?_⟩
    have g0 : ∀ x y : Int, atI [V.int x, .int y] 0 = some (.int x) := fun x y => rfl
    have g1 : ∀ x y : Int, atI [V.int x, .int y] 1 = some (.int y) := fun x y => rfl
    refine ⟨_, rfl, pl, _, _, _, rfl, rfl, SqL.of hp, g0 _ _, _, _, rfl, rfl, _, rfl, ?_⟩
    by_cases ha : 0 < a
    · refine ifT (decide_eq_true ha) ?_
      refine ⟨_, rfl, pl, _, _, _, rfl, rfl, SqL.of hp, g0 _ _, .inl ⟨_, rfl, _, rfl, _, _, rfl, rfl, hm0, ?_⟩⟩
      refine ⟨_, rfl, pl, _, _, _, rfl, rfl, SqL.of hp, g0 _ _, _, rfl, _, _, rfl, rfl, ⟨hm0, hm1⟩, ?_⟩
      refine ⟨_, rfl, pl, _, _, 0, rfl, rfl, hp, rfl, ?_⟩
      refine ⟨_, rfl, k _ _ (Int.emod_nonneg _ (by omega)) (Int.emod_lt_of_pos _ hm0) But.set ⟨a / m, b, upd_same, hb0, hb1⟩⟩
    · refine ifF (decide_eq_false ha) ?_
      refine ⟨_, rfl, pl, _, _, _, rfl, rfl, SqL.of hp, g1 _ _, _, _, rfl, rfl, .inr ⟨by decide, by decide⟩, _, _, rfl, rfl, .inl ⟨_, rfl, _, _, rfl, rfl, (show (0 : Int) < 2147483647 by decide), ?_⟩⟩
      refine ⟨_, rfl, pl, _, _, 1, rfl, rfl, hp, rfl, ?_⟩
      have n0 := Int.emod_nonneg (b * 48271 + 11) (show (2147483647 : Int) ≠ 0 by decide)
      have n1 := Int.emod_lt_of_pos (b * 48271 + 11) (show (0 : Int) < 2147483647 by decide)
      have hq : (upd H pl (.lst ([V.int a, .int b].set 1 ((fun i j : Int => V.int (i % j)) (b * 48271 + 11) 2147483647)))) pl = some (.lst [.int a, .int ((b * 48271 + 11) % 2147483647)]) := upd_same
      refine ⟨_, rfl, pl, _, _, _, rfl, rfl, SqL.of hq, g1 _ _, _, rfl, pl, _, _, _, rfl, rfl, SqL.of hq, g1 _ _, _, _, rfl, rfl, .inl ⟨by omega, by omega⟩, .inl ⟨_, rfl, _, _, rfl, rfl, (show (0 : Int) < 2147483629 by decide), _, _, rfl, rfl, ⟨by decide, by decide⟩, .inl ⟨_, rfl, _, rfl, _, _, rfl, rfl, hm0, ?_⟩⟩⟩
      exact k _ _ (Int.emod_nonneg _ (by omega)) (Int.emod_lt_of_pos _ hm0) But.set ⟨a, (b * 48271 + 11) % 2147483647, hq, n0, by omega⟩
def spPick (K : PySem.W.Frag) : Sp := fun vs H Q _ => ∃ (pl l : Addr) (xs : List V), vs = [.ref pl, .ref l] ∧ PoolAt pl H ∧ pl ≠ l ∧ H l = some (.lst xs) ∧ xs ≠ [] ∧ xs.length ≤ 1000 ∧ ∀ H' v, v ∈ xs → But pl H H' → PoolAt pl H' → Q v H'
theorem sc_law_pick : FnScope ["_law_pool_here", "_law_row"] ["_law_pool_here", "_law_row"] (defScope s_law_pick) := ⟨rfl, rfl, rfl, by decide +kernel, rfl, by decide +kernel, by decide +kernel⟩
theorem ok_law_pick (T : Txt K mg w C CH) : Cal P w K mg base 2 "_law_pick" (spPick K) [] := by
  refine cal_of T.d_law_pick sc_law_pick (fun _ _ _ _ _ _ us hl => match us, hl with | [_, _], _ => rfl) (fun vs H Q E h => ?_) (fun f cdv A outer s H vs Q E hr h => ?_)
  · obtain ⟨_, _, _, rfl, _⟩ := h
    rfl
  · obtain ⟨pl, l, xs, rfl, hp, hpl, hl, hne, hlen, k⟩ := h
    refine ⟨_, pss_one (ps_ret (pe_ix ix_list (pv 1) (C8.pe_c (ok_law_draw T) hr (by decide) rfl (pa_cons (pv 0) (pa_cons (pe_callB call_len_seq rfl T.b_len PySem.boot_len (pa_cons (pv 1) pa_nil)) pa_nil))) (fun _ _ => rfl))), ?_⟩
    have h0 : 0 < xs.length := List.length_pos_iff.mpr hne
    refine ⟨_, rfl, _, rfl, _, rfl, l, xs, rfl, .inl (SqL.of hl), pl, (xs.length : Nat), rfl, hp, by omega, by omega, fun H1 n n0 n1 b1 hp1 => ?_⟩
    have hn : n.toNat < xs.length := by omega
    refine ⟨l, xs, n, xs[n.toNat], rfl, rfl, SqL.of (b1 _ _ hpl.symm hl), ?_, k H1 _ (List.getElem_mem hn) b1 hp1⟩
    unfold atI ixN
    rw [if_pos n0, if_pos (by omega)]
    exact List.getElem?_eq_getElem hn
def spValue : Sp := fun vs H Q _ => ∃ (pl : Addr) (m : Int), vs = [.ref pl, .int m] ∧ PoolAt pl H ∧ 0 ≤ m ∧ m ≤ 99 ∧ ∀ H' d, ValO m d → But pl H H' → PoolAt pl H' → Q (vO d) H'
theorem sc_law_value : FnScope ["_law_pool_here", "_law_most"] ["_law_pool_here", "_law_most"] (defScope s_law_value) := ⟨rfl, rfl, rfl, by decide +kernel, rfl, by decide +kernel, by decide +kernel⟩
theorem ok_law_value (T : Txt K mg w C CH) : Cal P w K mg base 3 "_law_value" spValue [] := by
  refine cal_of T.d_law_value sc_law_value (fun _ _ _ _ _ _ us hl => match us, hl with | [_, _], _ => rfl) (fun vs H Q E h => ?_) (fun f cdv A outer s H vs Q E hr h => ?_)
  · obtain ⟨_, _, rfl, _⟩ := h
    rfl
  · obtain ⟨pl, m, rfl, hp, hm0, hm1, k⟩ := h
    refine ⟨_, pss_one (ps_ret (C8.pe_c (ok_law_pick T) hr (by decide) rfl (pa_cons (pv 0) (pa_cons (pe_op op_cat (pe_lst (pa_cons pe_non pa_nil)) (pe_listRg rfl rfl T.b_list (prg_1 rfl T.b_range (pe_op op_add (pv 1) pe_int)))) pa_nil)))), ?_⟩
    refine ⟨_, rfl, (by show 1 ≤ sizeLine; decide), fun p1 hp1 => ?_⟩
    have s1 : Same H (upd H p1 (.lst [.non])) := Same.new hp1
    refine ⟨_, rfl, _, _, rfl, rfl, _, rfl, RgOk.of_le (by decide) (by omega) (by decide) (by omega), fun p2 hp2 => ?_⟩
    have s2 : Same (upd H p1 (.lst [.non])) (upd (upd H p1 (.lst [.non])) p2 (.lst (rgV 0 (m + 1)))) := Same.new hp2
    have hrl : (rgV 0 (m + 1)).length = (m + 1).toNat := by rw [rgV_length]; congr 1; omega
    refine ⟨p1, p2, _, _, rfl, rfl, s2 _ _ upd_same, upd_same, small_le ?_, fun p3 hp3 => ?_⟩
    · show 1 + (rgV 0 (m + 1)).length ≤ 100000
      omega
    · have s3 := (s1.trans s2).trans (Same.new (o := .lst ([.non] ++ rgV 0 (m + 1))) hp3)
      have hpA := hp.same (s1.trans s2)
      refine ⟨pl, p3, _, rfl, hp.same s3, hpA.free hp3, upd_same, (fun e => by cases e), ?_, fun H4 v hv b4 hp4 => ?_⟩
      · show (rgV 0 (m + 1)).length + 1 ≤ 1000
        omega
      · have hb := (s3.but pl).trans b4
        rcases List.mem_cons.mp hv with rfl | hv
        · exact k H4 none (fun i e => by cases e) hb hp4
        · obtain ⟨j, hj, rfl⟩ := List.mem_map.mp hv
          have hj := List.mem_range.mp hj
          exact k H4 (some (0 + (j : Nat))) (fun i e => by cases e; omega) hb hp4
/-! ### a change, the first columns -/
def spLawChange : Sp := fun vs H Q _ => ∃ (pl : Addr) (m : Int), vs = [.ref pl, .int m] ∧ PoolAt pl H ∧ 1 ≤ m ∧ m ≤ 99 ∧ ∀ H' t c, ChgOk m c → But pl H H' → PoolAt pl H' → H' t = some (.tup c.vals) → Q (.ref t) H'
theorem sc_law_change : FnScope ["_law_pool_here", "_law_most", "_law_kind", "_law_name"] ["_law_pool_here", "_law_most"] (defScope s_law_change) := ⟨rfl, rfl, rfl, by decide +kernel, rfl, by decide +kernel, by decide +kernel⟩
theorem nm_of {v : V} (h : v ∈ [V.str "a", .str "b", .str "cc"]) : ∃ n, v = .str n ∧ Nm n := by
  simp only [List.mem_cons, List.not_mem_nil, or_false] at h
  rcases h with rfl | rfl | rfl
  · exact ⟨_, rfl, .inl rfl⟩
  · exact ⟨_, rfl, .inr (.inl rfl)⟩
  · exact ⟨_, rfl, .inr (.inr rfl)⟩
theorem way_of {v : V} (h : v ∈ [V.str "cut", .str "none", .str "refuse"]) : ∃ n, v = .str n ∧ Way n := by
  simp only [List.mem_cons, List.not_mem_nil, or_false] at h
  rcases h with rfl | rfl | rfl
  · exact ⟨_, rfl, .inl rfl⟩
  · exact ⟨_, rfl, .inr (.inl rfl)⟩
  · exact ⟨_, rfl, .inr (.inr rfl)⟩
theorem kind_of {v : V} (h : v ∈ [V.str "add", .str "drop", .str "rename", .str "default", .str "greatest", .str "greatest", .str "greatest", .str "fill", .str "fill"]) :
    v = .str "add" ∨ v = .str "drop" ∨ v = .str "rename" ∨ v = .str "default" ∨ v = .str "greatest" ∨ v = .str "fill" := by
  simp only [List.mem_cons, List.not_mem_nil, or_false] at h
  rcases h with h | h | h | h | h | h | h | h | h
  · exact .inl h
  · exact .inr (.inl h)
  · exact .inr (.inr (.inl h))
  · exact .inr (.inr (.inr (.inl h)))
  · exact .inr (.inr (.inr (.inr (.inl h))))
  · exact .inr (.inr (.inr (.inr (.inl h))))
  · exact .inr (.inr (.inr (.inr (.inl h))))
  · exact .inr (.inr (.inr (.inr (.inr h))))
  · exact .inr (.inr (.inr (.inr (.inr h))))
theorem ok_law_change (T : Txt K mg w C CH) : Cal P w K mg base 4 "_law_change" spLawChange [] := by
  refine cal_of T.d_law_change sc_law_change (fun _ _ _ _ _ _ us hl => match us, hl with | [_, _], _ => rfl) (fun vs H Q E h => ?_) (fun f cdv A outer s H vs Q E hr h => ?_)
  · obtain ⟨_, _, rfl, _⟩ := h
    rfl
  · obtain ⟨pl, m, rfl, hp, hm0, hm1, k⟩ := h
    refine ⟨_, pss_cons (ps_set (i := 2) sc_law_change.nd rfl (Or.inl rfl) (C8.pe_c (ok_law_pick T) hr (by decide) rfl (pa_cons (pv 0) (pa_cons (pe_lst (pa_cons pe_str (pa_cons pe_str (pa_cons pe_str (pa_cons pe_str (pa_cons pe_str (pa_cons pe_str (pa_cons pe_str (pa_cons pe_str (pa_cons pe_str pa_nil)))))))))) pa_nil))))
      (pss_cons (ps_set (i := 3) sc_law_change.nd rfl (Or.inl rfl) (C8.pe_c (ok_law_pick T) hr (by decide) rfl (pa_cons (pv 0) (pa_cons (pe_lst (pa_cons pe_str (pa_cons pe_str (pa_cons pe_str pa_nil)))) pa_nil))))
      (pss_cons (ps_if (pt_cmpR op_eq (pv 2) pe_str (nomark _)) (pss_one (ps_ret (pe_tup (pa_cons (pv 2) (pa_cons (pv 3) (pa_cons (pe_op op_add pe_int (C8.pe_c (ok_law_draw T) hr (by decide) rfl (pa_cons (pv 0) (pa_cons (pv 1) pa_nil)))) (pa_cons (C8.pe_c (ok_law_value T) hr (by decide) rfl (pa_cons (pv 0) (pa_cons (pv 1) pa_nil))) pa_nil))))))) pss_nil)
      (pss_cons (ps_if (pt_cmpR op_eq (pv 2) pe_str (nomark _)) (pss_one (ps_ret (pe_tup (pa_cons (pv 2) (pa_cons (pv 3) pa_nil))))) pss_nil)
      (pss_cons (ps_if (pt_cmpR op_eq (pv 2) pe_str (nomark _)) (pss_one (ps_ret (pe_tup (pa_cons (pv 2) (pa_cons (pv 3) (pa_cons (C8.pe_c (ok_law_pick T) hr (by decide) rfl (pa_cons (pv 0) (pa_cons (pe_lst (pa_cons pe_str (pa_cons pe_str (pa_cons pe_str pa_nil)))) pa_nil))) pa_nil)))))) pss_nil)
      (pss_cons (ps_if (pt_cmpR op_eq (pv 2) pe_str (nomark _)) (pss_one (ps_ret (pe_tup (pa_cons (pv 2) (pa_cons (pv 3) (pa_cons (C8.pe_c (ok_law_value T) hr (by decide) rfl (pa_cons (pv 0) (pa_cons (pv 1) pa_nil))) pa_nil)))))) pss_nil)
      (pss_cons (ps_if (pt_cmpR op_eq (pv 2) pe_str (nomark _)) (pss_one (ps_ret (pe_tup (pa_cons (pv 2) (pa_cons (pv 3) (pa_cons (C8.pe_c (ok_law_draw T) hr (by decide) rfl (pa_cons (pv 0) (pa_cons (pe_op op_add (pv 1) pe_int) pa_nil))) pa_nil)))))) pss_nil)
      (pss_one (ps_ret (pe_tup (pa_cons (pv 2) (pa_cons (pv 3) (pa_cons (pe_op op_add pe_int (C8.pe_c (ok_law_draw T) hr (by decide) rfl (pa_cons (pv 0) (pa_cons (pv 1) pa_nil)))) (pa_cons (C8.pe_c (ok_law_pick T) hr (by decide) rfl (pa_cons (pv 0) (pa_cons (pe_lst (pa_cons pe_str (pa_cons pe_str (pa_cons pe_str pa_nil)))) pa_nil))) pa_nil))))))))))))), ?_⟩
    refine ⟨_, rfl, (by show 9 ≤ sizeLine; decide), fun p1 hp1 => ?_⟩
    refine ⟨pl, p1, _, rfl, hp.same (Same.new hp1), hp.free hp1, upd_same, (fun e => by cases e), (by show 9 ≤ 1000; decide), fun H1 v1 hv1 b1 hq1 => ?_⟩
    have b01 := ((Same.new hp1).but pl).trans b1
    refine ⟨_, rfl, (by show 3 ≤ sizeLine; decide), fun p2 hp2 => ?_⟩
    refine ⟨pl, p2, _, rfl, hq1.same (Same.new hp2), hq1.free hp2, upd_same, (fun e => by cases e), (by show 3 ≤ 1000; decide), fun H2 v2 hv2 b2 hq2 => ?_⟩
    have b02 := b01.trans (((Same.new hp2).but pl).trans b2)
    obtain ⟨n, rfl, hn⟩ := nm_of hv2
    clear b01 b1 b2
    rcases kind_of hv1 with rfl | rfl | rfl | rfl | rfl | rfl
    · refine ⟨_, rfl, rfl, _, rfl, ifT (decide_eq_true rfl) ?_⟩
      refine ⟨_, rfl, _, rfl, _, rfl, _, rfl, pl, m, rfl, hq2, by omega, by omega, fun H3 g g0 g1 b3 hq3 => ⟨_, _, rfl, rfl, _, rfl, _, rfl, pl, m, rfl, hq3, by omega, hm1, fun H4 d hd b4 hq4 => ⟨(by show 4 ≤ sizeLine; decide), fun t ht => ?_⟩⟩⟩
      exact k _ t (.add n (1 + g) d) ⟨hn, ⟨by omega, by omega⟩, hd⟩ ((b02.trans (b3.trans b4)).trans ((Same.new ht).but pl)) (hq4.same (Same.new ht)) upd_same
    · refine ⟨_, rfl, rfl, _, rfl, ifF (decide_eq_false (ksn (a := "drop") (by decide +kernel))) ?_⟩
      refine ⟨_, rfl, rfl, _, rfl, ifT (decide_eq_true rfl) ?_⟩
      refine ⟨_, rfl, _, rfl, (by show 2 ≤ sizeLine; decide), fun t ht => ?_⟩
      exact k _ t (.drop n) hn (b02.trans ((Same.new ht).but pl)) (hq2.same (Same.new ht)) upd_same
    · refine ⟨_, rfl, rfl, _, rfl, ifF (decide_eq_false (ksn (a := "rename") (by decide +kernel))) ?_⟩
      refine ⟨_, rfl, rfl, _, rfl, ifF (decide_eq_false (ksn (a := "rename") (by decide +kernel))) ?_⟩
      refine ⟨_, rfl, rfl, _, rfl, ifT (decide_eq_true rfl) ?_⟩
      refine ⟨_, rfl, _, rfl, _, rfl, (by show 3 ≤ sizeLine; decide), fun p3 hp3 => ?_⟩
      refine ⟨pl, p3, _, rfl, hq2.same (Same.new hp3), hq2.free hp3, upd_same, (fun e => by cases e), (by show 3 ≤ 1000; decide), fun H3 v3 hv3 b3 hq3 => ?_⟩
      obtain ⟨n2, rfl, hn2⟩ := nm_of hv3
      refine ⟨(by show 3 ≤ sizeLine; decide), fun t ht => ?_⟩
      exact k _ t (.rename n n2) ⟨hn, hn2⟩ ((b02.trans (((Same.new hp3).but pl).trans b3)).trans ((Same.new ht).but pl)) (hq3.same (Same.new ht)) upd_same
    · refine ⟨_, rfl, rfl, _, rfl, ifF (decide_eq_false (ksn (a := "default") (by decide +kernel))) ?_⟩
      refine ⟨_, rfl, rfl, _, rfl, ifF (decide_eq_false (ksn (a := "default") (by decide +kernel))) ?_⟩
      refine ⟨_, rfl, rfl, _, rfl, ifF (decide_eq_false (ksn (a := "default") (by decide +kernel))) ?_⟩
      refine ⟨_, rfl, rfl, _, rfl, ifT (decide_eq_true rfl) ?_⟩
      refine ⟨_, rfl, _, rfl, _, rfl, _, rfl, pl, m, rfl, hq2, by omega, hm1, fun H3 d hd b3 hq3 => ⟨(by show 3 ≤ sizeLine; decide), fun t ht => ?_⟩⟩
      exact k _ t (.dfl n d) ⟨hn, hd⟩ ((b02.trans b3).trans ((Same.new ht).but pl)) (hq3.same (Same.new ht)) upd_same
    · refine ⟨_, rfl, rfl, _, rfl, ifF (decide_eq_false (ksn (a := "greatest") (by decide +kernel))) ?_⟩
      refine ⟨_, rfl, rfl, _, rfl, ifF (decide_eq_false (ksn (a := "greatest") (by decide +kernel))) ?_⟩
      refine ⟨_, rfl, rfl, _, rfl, ifF (decide_eq_false (ksn (a := "greatest") (by decide +kernel))) ?_⟩
      refine ⟨_, rfl, rfl, _, rfl, ifF (decide_eq_false (ksn (a := "greatest") (by decide +kernel))) ?_⟩
      refine ⟨_, rfl, rfl, _, rfl, ifF (decide_eq_false (ksn (a := "greatest") (by decide +kernel))) ?_⟩
      refine ⟨_, rfl, _, rfl, _, rfl, _, rfl, pl, m, rfl, hq2, by omega, by omega, fun H3 g g0 g1 b3 hq3 => ⟨_, _, rfl, rfl, _, rfl, (by show 3 ≤ sizeLine; decide), fun p3 hp3 => ?_⟩⟩
      refine ⟨pl, p3, _, rfl, hq3.same (Same.new hp3), hq3.free hp3, upd_same, (fun e => by cases e), (by show 3 ≤ 1000; decide), fun H4 v3 hv3 b4 hq4 => ?_⟩
      obtain ⟨ww, rfl, hw⟩ := way_of hv3
      refine ⟨(by show 4 ≤ sizeLine; decide), fun t ht => ?_⟩
      exact k _ t (.grt n (1 + g) ww) ⟨hn, ⟨by omega, by omega⟩, hw⟩ ((b02.trans (b3.trans (((Same.new hp3).but pl).trans b4))).trans ((Same.new ht).but pl)) (hq4.same (Same.new ht)) upd_same
    · refine ⟨_, rfl, rfl, _, rfl, ifF (decide_eq_false (ksn (a := "fill") (by decide +kernel))) ?_⟩
      refine ⟨_, rfl, rfl, _, rfl, ifF (decide_eq_false (ksn (a := "fill") (by decide +kernel))) ?_⟩
      refine ⟨_, rfl, rfl, _, rfl, ifF (decide_eq_false (ksn (a := "fill") (by decide +kernel))) ?_⟩
      refine ⟨_, rfl, rfl, _, rfl, ifF (decide_eq_false (ksn (a := "fill") (by decide +kernel))) ?_⟩
      refine ⟨_, rfl, rfl, _, rfl, ifT (decide_eq_true rfl) ?_⟩
      refine ⟨_, rfl, _, rfl, _, rfl, _, rfl, _, _, rfl, rfl, pl, m + 1, rfl, hq2, by omega, by omega, fun H3 g g0 g1 b3 hq3 => ⟨(by show 3 ≤ sizeLine; decide), fun t ht => ?_⟩⟩
      exact k _ t (.fill n g) ⟨hn, g0, by omega⟩ ((b02.trans b3).trans ((Same.new ht).but pl)) (hq3.same (Same.new ht)) upd_same
def spFirst : Sp := fun vs H Q _ => ∃ (pl : Addr), vs = [.ref pl, .int 3] ∧ PoolAt pl H ∧
  ∀ H' l ls cols, But pl H H' → PoolAt pl H' → H' l = some (.lst ls) → ItemsAt LColN cols ls H' → ColsOk cols → cols ≠ [] → H l = none → Q (.ref l) H'
theorem sc_law_first : FnScope ["_law_pool_here", "_law_most", "_law_found", "_law_name", "_law_top"] ["_law_pool_here", "_law_most"] (defScope s_law_first) := ⟨rfl, rfl, rfl, by decide +kernel, rfl, by decide +kernel, by decide +kernel⟩
theorem ok_law_first (T : Txt K mg w C CH) : Cal P w K mg base 4 "_law_first" spFirst [] := by
  refine cal_of T.d_law_first sc_law_first (fun _ _ _ _ _ _ us hl => match us, hl with | [_, _], _ => rfl) (fun vs H Q E h => ?_) (fun f cdv A outer s H vs Q E hr h => ?_)
  · obtain ⟨_, rfl, _⟩ := h
    rfl
  · obtain ⟨pl, rfl, hp, k⟩ := h
    refine ⟨_, pss_cons (ps_set (i := 2) sc_law_first.nd rfl (Or.inl rfl) (pe_lst pa_nil))
      (pss_cons (ps_for PassesOwn.never rfl (pi_list (pe_slice sl_list (pe_lst (pa_cons pe_str (pa_cons pe_str pa_nil))) po_none (po_some (pe_op op_add pe_int (C8.pe_c (ok_law_draw T) hr (by decide) rfl (pa_cons (pv 0) (pa_cons pe_int pa_nil))))))) (pg_name (i := 3) sc_law_first.nd rfl (Or.inl rfl))
        (pss_cons (ps_set (i := 4) sc_law_first.nd rfl (Or.inl rfl) (pe_op op_add pe_int (C8.pe_c (ok_law_draw T) hr (by decide) rfl (pa_cons (pv 0) (pa_cons (pv 1) pa_nil)))))
        (pss_one (ps_expr (pe_bm PySem.F.plainAttrs_list PySem.F.slot_list_append PySem.F.type_list_append mt_append (pv 2) (pa_cons (pe_tup (pa_cons (pv 3) (pa_cons (pv 4) (pa_cons (C8.pe_c (ok_law_value T) hr (by decide) rfl (pa_cons (pv 0) (pa_cons (pv 4) pa_nil))) (pa_cons (pe_callB call_len_seq rfl T.b_len PySem.boot_len (pa_cons (pv 2) pa_nil)) pa_nil))))) pa_nil))))))
      (pss_one (ps_ret (pv 2)))), ?_⟩
    refine ⟨(by show 0 ≤ sizeLine; decide), fun fd hfd => ?_⟩
    have s1 : Same H (upd H fd (.lst [])) := Same.new hfd
    have hp1 := hp.same s1
    have hpfd : pl ≠ fd := hp.free hfd
    have hf1 : (upd H fd (.lst [])) fd = some (.lst []) := upd_same
    generalize upd H fd (.lst []) = H1 at s1 hp1 hf1
    refine ⟨(by show 2 ≤ sizeLine; decide), fun p hpn => ?_⟩
    have hpp : pl ≠ p := hp1.free hpn
    have hfp : fd ≠ p := ne_of_none hf1 hpn
    refine ⟨_, rfl, pl, 2, rfl, hp1.same (Same.new hpn), by decide, by decide, fun H2 d d0 d1 b2 hp2 => ?_⟩
    have hl2 := b2 _ _ hpp.symm upd_same
    have hf2 := b2 fd _ hpfd.symm ((Same.new hpn) _ _ hf1)
    have b02 := (s1.but pl).trans (((Same.new hpn).but pl).trans b2)
    obtain ⟨nms, hcut, hnm, hnd, hne, hlen⟩ : ∃ nms : List Str, cutV [V.str "a", .str "b"] none (some (1 + d)) = nms.map V.str ∧ (∀ n ∈ nms, Nm n) ∧ nms.Nodup ∧ nms ≠ [] ∧ nms.length ≤ 2 := by
      have hd : d = 0 ∨ d = 1 := by omega
      rcases hd with rfl | rfl
      · exact ⟨["a"], rfl, fun n h => by rw [List.mem_singleton.mp h]; exact .inl rfl, by simp, (fun e => by cases e), by decide⟩
      · refine ⟨["a", "b"], rfl, fun n h => ?_, by decide +kernel, (fun e => by cases e), by decide⟩
        simp only [List.mem_cons, List.not_mem_nil, or_false] at h
        rcases h with rfl | rfl
        · exact .inl rfl
        · exact .inr (.inl rfl)
    refine ⟨_, _, rfl, rfl, 1 + d, rfl, p, _, rfl, SqL.of hl2, fun q hq => ?_⟩
    rw [hcut]
    have hpq : pl ≠ q := hp2.free hq
    have hfq : fd ≠ q := ne_of_none hf2 hq
    have s3 : Same H2 (upd H2 q (.lst (nms.map V.str))) := Same.new hq
    have hqH := upd_same (H := H2) (a := q) (o := .lst (nms.map V.str))
    have hp3 := hp2.same s3
    have hf3 := s3 _ _ hf2
    have b03 := b02.trans (s3.but pl)
    generalize upd H2 q (.lst (nms.map V.str)) = H3 at s3 hqH hp3 hf3 b03
    refine ⟨q, rfl, ⟨_, SqL.of hqH⟩, ?_⟩
    refine for_it walk_list (fun i σ H' => ∃ (x3 x4 : Option V) (ls : List V) (cols : List Col), σ = [some (.ref pl), some (.int 3), some (.ref fd), x3, x4] ∧ But pl H H' ∧ PoolAt pl H' ∧ H' fd = some (.lst ls) ∧ ItemsAt LColN cols ls H' ∧
        H' q = some (.lst (nms.map V.str)) ∧ cols.map (·.name) = nms.take i ∧ ∀ c ∈ cols, ColOk 3 c)
      ⟨_, _, [], [], rfl, b03, hp3, hf3, ItemsAt.nil, hqH, rfl, fun c h => by cases h⟩ (fun i σ H' _ ⟨_, _, _, _, _, _, _, _, _, h, _⟩ => SqL.of h) ?_ ?_
    · rintro i x σ H4 H5 hi ⟨x3, x4, ls, cols, rfl, b4, hp4, hf4, it, hq4, hnms, hcs⟩ ⟨rfl, hx⟩
      rw [List.getElem?_map] at hx
      obtain ⟨nm, hnm1, rfl⟩ : ∃ nm, nms[i]? = some nm ∧ x = .str nm := by
        cases e : nms[i]? with
        | none => rw [e] at hx; cases hx
        | some nm => rw [e] at hx; exact ⟨nm, rfl, (Option.some.inj hx).symm⟩
      have hok := hnm nm (List.mem_of_getElem? hnm1)
      refine ⟨_, rfl, _, rfl, pl, 3, rfl, hp4, by decide, by decide, fun H6 g g0 g1 b6 hp6 => ?_⟩
      refine ⟨_, _, rfl, rfl, ?_⟩
      have hf6 := b6 fd _ hpfd.symm hf4
      refine ⟨_, rfl, .inl ⟨rfl, _, SqL.of hf6⟩, ?_⟩
      refine ⟨_, rfl, _, rfl, _, rfl, _, rfl, pl, 1 + g, rfl, hp6, by omega, by omega, fun H7 dd hdd b7 hp7 => ?_⟩
      have hf7 := b7 fd _ hpfd.symm hf6
      refine ⟨_, rfl, fd, ls, rfl, .inl (SqL.of hf7), (by show 4 ≤ sizeLine; decide), fun t ht => ?_⟩
      have s8 : Same H7 (upd H7 t (.tup [.str nm, .int (1 + g), vO dd, .int ((ls.length : Nat) : Int)])) := Same.new ht
      have hf8 := s8 _ _ hf7
      have hlc : ls.length ≤ 2 := by
        have e := congrArg List.length hnms
        rw [List.length_map, List.length_take] at e
        have := it.len
        omega
      refine ⟨fd, _, _, rfl, rfl, hf8, small_lt (by omega), ?_⟩
      have b48 := (b6.trans b7).trans (s8.but pl)
      have k48 := ((b6.keep hp4).trans (b7.keep hp6)).trans s8.keep
      refine ⟨_, _, ls ++ [.ref t], cols ++ [⟨nm, 1 + g, dd⟩], rfl, (b4.trans b48).upd hfd, (hp7.same s8).other hpfd, upd_same, ?_, by rw [upd_ne hfq.symm]; exact b48 _ _ hpq.symm hq4, ?_, fun c hc => ?_⟩
      · have it2 := (it.keep LColN.keep k48).snoc (x := (⟨nm, 1 + g, dd⟩ : Col)) (v := V.ref t) ⟨t, ((ls.length : Nat) : Int), rfl, by omega, upd_same⟩
        exact it2.keep LColN.keep (Keep.lst hf8)
      · rw [List.map_append, hnms, List.take_add_one, hnm1]
        rfl
      · rcases List.mem_append.mp hc with hc | hc
        · exact hcs c hc
        · rw [List.mem_singleton.mp hc]
          exact ⟨hok, ⟨by show 1 ≤ 1 + g; omega, by show 1 + g ≤ 3; omega⟩, hdd⟩
    · rintro σ H4 ⟨x3, x4, ls, cols, rfl, b4, hp4, hf4, it, hq4, hnms, hcs⟩
      rw [List.length_map, List.take_length] at hnms
      refine ⟨_, rfl, k H4 fd ls cols b4 hp4 hf4 it ⟨hcs, by rw [hnms]; exact hnd, ?_⟩ (fun e => hne ?_) hfd⟩
      · have e := congrArg List.length hnms
        rw [List.length_map] at e
        omega
      · rw [e] at hnms
        exact hnms.symm
end
end Ed
/-! Editionrows: the law's own defs, second part: what a change does to its columns. -/
namespace Ed
open PySem PySem.Spec PyProof.Rows L2
theorem inV_names (n : Str) : ∀ ns : List Str, inV (.str n) (ns.map V.str) = decide (n ∈ ns)
  | [] => by simp [inV]
  | x :: r => by
    have ih := inV_names n r
    unfold inV at ih ⊢
    rw [List.map_cons, List.any_cons, ih]
    show ((x == n) || decide (n ∈ r)) = decide (n ∈ x :: r)
    rw [Bool.eq_iff_iff]
    simp only [Bool.or_eq_true, beq_iff_eq, decide_eq_true_eq, List.mem_cons]
    exact ⟨fun h => h.imp Eq.symm id, fun h => h.imp Eq.symm id⟩
theorem flat_names (ns : List Str) : (ns.map V.str).all flatV = true := List.all_eq_true.mpr fun v hv => by
  obtain ⟨s, _, rfl⟩ := List.mem_map.mp hv
  rfl
theorem merge3 {a b c : Key} {x y z : V} (h1 : a ≠ b) (h2 : a ≠ c) (h3 : b ≠ c) : mergeK [] [(a, x), (b, y), (c, z)] = [(a, x), (b, y), (c, z)] := by
  show putK (putK (putK [] a x) b y) c z = _
  have e1 : putK [] a x = [(a, x)] := putK_new x valV_nil
  have e2 : putK [(a, x)] b y = [(a, x), (b, y)] := putK_new y (by rw [valV_neg (k := b) (show ¬ (a, x).1 = b from h1)]; exact valV_nil)
  rw [e1, e2]
  exact putK_new z (by rw [valV_neg (k := c) (show ¬ (a, x).1 = c from h2), valV_neg (k := c) (show ¬ (b, y).1 = c from h3)]; exact valV_nil)
theorem find_name {cols : List Col} {n : Str} (nd : (cols.map (·.name)).Nodup) (h : Has cols n) : ∃ (j : Nat) (c : Col), cols[j]? = some c ∧ c.name = n ∧ ∀ (m : Nat) (c' : Col), m < j → cols[m]? = some c' → c'.name ≠ n := by
  obtain ⟨c, hc, e⟩ := h
  obtain ⟨j, hj, ej⟩ := List.mem_iff_getElem.mp hc
  have hj' : cols[j]? = some c := by rw [← ej]; exact List.getElem?_eq_getElem hj
  refine ⟨j, c, hj', e, fun m c' hm hc' en => ?_⟩
  have h1 : (cols.map (·.name))[m]? = some n := by rw [List.getElem?_map, hc', ← en]; rfl
  have h2 : (cols.map (·.name))[j]? = some n := by rw [List.getElem?_map, hj', ← e]; rfl
  have := nd_ix nd h1 h2
  omega
theorem one_name {cols : List Col} {n : Str} (nd : (cols.map (·.name)).Nodup) {j : Nat} {c : Col} (hj : cols[j]? = some c) (hn : c.name = n) {c' : Col} (hc : c' ∈ cols) (e : c'.name = n) : c' = c := nodup_one nd hc (List.mem_of_getElem? hj) (by rw [e, hn])
section
variable {P : Program} {w : World} {K : PySem.W.Frag} {mg : Str → Option Value} {base : Heap} {C CH : Addr}
/-! ### _law_word -/
def spWord : Sp := fun vs H Q _ => ∃ (l t : Addr) (ls : List V) (cols : List Col) (c : Chg), vs = [.ref l, .ref t] ∧ H l = some (.lst ls) ∧ ItemsAt LColN cols ls H ∧ (cols.map (·.name)).Nodup ∧ cols.length ≤ 100 ∧ H t = some (.tup c.vals) ∧ ChgOk 3 c ∧
  ∀ H' v, Same H H' → (v = .non ∧ Good cols c ∨ ∃ s, v = .str s) → Q v H'
theorem sc_law_word : FnScope ["_law_cols_here", "_law_change_here", "_law_col", "_law_names"] ["_law_cols_here", "_law_change_here"] (defScope s_law_word) := ⟨rfl, rfl, rfl, by decide +kernel, rfl, by decide +kernel, by decide +kernel⟩
theorem ok_law_word (T : Txt K mg w C CH) : Cal P w K mg base 1 "_law_word" spWord [] := by
  refine cal_of T.d_law_word sc_law_word (fun _ _ _ _ _ _ us hl => match us, hl with | [_, _], _ => rfl) (fun vs H Q E h => ?_) (fun f cdv A outer s H vs Q E hr h => ?_)
  · obtain ⟨_, _, _, _, _, rfl, _⟩ := h
    rfl
  · obtain ⟨l, t, ls, cols, c, rfl, hl, it, nd, hlen, ht, hc, k⟩ := h
    refine ⟨_, pss_cons (ps_setLc (i := 3) (own := [("_law_col", 2)]) (g := gName 2) (tt := tYes) (te := tOp (rIxT K) (tVar 2) (tC (.int 0))) (by rfl) sc_law_word.nd rfl rfl (sw_true rfl rfl rfl (by decide +kernel)) (pi_list (pv 0)) (blkOk_by (own := [("_law_col", 2)]) (N := ["_law_cols_here", "_law_change_here", "_law_col", "_law_names"]) (sc := defScope s_law_word) (by decide +kernel))
          (fun _ _ _ _ _ => pg_name (i := 2) sc_law_word.nd rfl (Or.inl rfl)) (fun _ _ _ _ _ => pts_nil) (fun _ _ _ _ _ => pe_ix ix_tup (pv 2) pe_int (fun _ _ => rfl)))
      (pss_cons (ps_if (pt_cmpR op_eq (pe_ix ix_tup (pv 1) pe_int (fun _ _ => rfl)) pe_str (nomark _))
          (pss_cons (ps_if (pt_cmpR op_in_seq (pe_ix ix_tup (pv 1) pe_int (fun _ _ => rfl)) (pv 3) (by rfl)) (pss_one (ps_ret pe_str)) pss_nil)
          (pss_cons (ps_if (pt_cmpR op_gt (pe_callB call_len_seq rfl T.b_len PySem.boot_len (pa_cons (pv 0) pa_nil)) pe_int (nomark _)) (pss_one (ps_ret pe_str)) pss_nil)
          (pss_one (ps_ret (pe_ifExp (PW.pt (pw_and (pt_cmpR op_notN (pe_ix ix_tup (pv 1) pe_int (fun _ _ => rfl)) pe_non (nomark _)) (pw_and1 (pt_cmpR op_gt (pe_ix ix_tup (pv 1) pe_int (fun _ _ => rfl)) (pe_ix ix_tup (pv 1) pe_int (fun _ _ => rfl)) (nomark _))))) pe_str pe_non))))) pss_nil)
      (pss_cons (ps_if (pt_cmpR op_notIn_seq (pe_ix ix_tup (pv 1) pe_int (fun _ _ => rfl)) (pv 3) (by rfl)) (pss_one (ps_ret pe_str)) pss_nil)
      (pss_cons (ps_set (i := 2) sc_law_word.nd rfl (Or.inl rfl) (pe_ix ix_list (pv 0) (pe_bm PySem.F.plainAttrs_list PySem.F.slot_list_index PySem.F.type_list_index mt_index (pv 3) (pa_cons (pe_ix ix_tup (pv 1) pe_int (fun _ _ => rfl)) pa_nil)) (fun _ _ => rfl)))
      (pss_cons (ps_if (pt_cmpR op_eq (pe_ix ix_tup (pv 1) pe_int (fun _ _ => rfl)) pe_str (nomark _)) (pss_one (ps_ret (pe_ifExp (pt_cmpR op_in_seq (pe_ix ix_tup (pv 1) pe_int (fun _ _ => rfl)) (pv 3) (by rfl)) pe_str pe_non))) pss_nil)
      (pss_cons (ps_if (pt_cmpR op_eq (pe_ix ix_tup (pv 1) pe_int (fun _ _ => rfl)) pe_str (nomark _)) (pss_one (ps_ret (pe_ifExp (pt_cmpR op_eq (pe_callB call_len_seq rfl T.b_len PySem.boot_len (pa_cons (pv 0) pa_nil)) pe_int (nomark _)) pe_str pe_non))) pss_nil)
      (pss_cons (ps_if (pt_cmpR op_in_seq (pe_ix ix_tup (pv 1) pe_int (fun _ _ => rfl)) (pe_lst (pa_cons pe_str (pa_cons pe_str pa_nil))) (by rfl))
          (pss_one (ps_ret (pe_ifExp (PW.pt (pw_and (pt_cmpR op_notN (pe_ix ix_tup (pv 1) pe_int (fun _ _ => rfl)) pe_non (nomark _)) (pw_and1 (pt_cmpR op_gt (pe_ix ix_tup (pv 1) pe_int (fun _ _ => rfl)) (pe_ix ix_tup (pv 2) pe_int (fun _ _ => rfl)) (nomark _))))) pe_str pe_non))) pss_nil)
      (pss_one (ps_ret (pe_ifExp (PW.pt (pw_and (pt_cmpR op_eq (pe_ix ix_tup (pv 1) pe_int (fun _ _ => rfl)) pe_str (nomark _)) (pw_and (pt_cmpR op_notN (pe_ix ix_tup (pv 2) pe_int (fun _ _ => rfl)) pe_non (nomark _)) (pw_and1 (pt_cmpR op_gt (pe_ix ix_tup (pv 2) pe_int (fun _ _ => rfl)) (pe_ix ix_tup (pv 1) pe_int (fun _ _ => rfl)) (nomark _)))))) pe_str pe_non)))))))))
      , ?_⟩
    refine ⟨_, rfl, l, rfl, ⟨_, SqL.of hl⟩, fun D hD => ?_⟩
    have l1 : ls.length = ((cols.map (·.name)).map V.str).length := by rw [List.length_map, List.length_map, it.len]
    refine lc_vals (ys := (cols.map (·.name)).map V.str) (by rw [← l1]; exact walk_list) (by rw [List.length_map, List.length_map]; omega) hD (fun H2 s2 => s2.seq (SqL.of hl)) (fun i x H2 H' y Kt hy s2 e kt => ?_) (fun H2 s2 hD2 => ?_)
    · obtain ⟨rfl, hx⟩ := e
      obtain ⟨cx, hcx, rc⟩ := it.get hx
      obtain ⟨a, n, rfl, hn, ha⟩ := LColN.keep _ _ _ _ s2.keep rc
      rw [List.getElem?_map, List.getElem?_map, hcx] at hy
      have ey := Option.some.inj hy
      subst ey
      exact ⟨rfl, _, rfl, a, _, _, _, rfl, rfl, SqT.of ha, atI_0, kt _ (Same.refl _)⟩
    · have ht2 := s2 _ _ ht
      have hS := SqT.of (K := K) ht2
      have hl2 := s2 _ _ hl
      have it2 := it.keep LColN.keep s2.keep
      have hY : ∀ n : Str, Has cols n → inV (.str n) ((cols.map (·.name)).map V.str) = true := fun n h => by
        rw [inV_names]
        exact decide_eq_true (has_names.mp h)
      have hN : ∀ n : Str, ¬ Has cols n → inV (.str n) ((cols.map (·.name)).map V.str) = false := fun n h => by
        rw [inV_names]
        exact decide_eq_false fun m => h (has_names.mpr m)
      have hfl := flat_names (cols.map (·.name))
      have yes : ∀ s : Str, Q (.str s) H2 := fun s => k H2 _ s2 (.inr ⟨s, rfl⟩)
      have no : Good cols c → Q .non H2 := fun g => k H2 _ s2 (.inl ⟨rfl, g⟩)
      refine ⟨_, rfl, t, _, _, _, rfl, rfl, hS, at0 c, rfl, _, rfl, ?_⟩
      by_cases hadd : ∃ n g d, c = .add n g d
      · obtain ⟨n, g, d, rfl⟩ := hadd
        refine ifT (decide_eq_true rfl) ?_
        refine ⟨_, rfl, t, _, _, .str n, rfl, rfl, hS, rfl, _, rfl, D, _, rfl, .inl (SqL.of hD2), rfl, hfl, _, rfl, ?_⟩
        by_cases h1 : Has cols n
        · exact ifT (hY n h1) (yes _)
        refine ifF (hN n h1) ?_
        refine ⟨_, rfl, l, _, rfl, .inl (SqL.of hl2), _, _, rfl, rfl, _, rfl, ?_⟩
        by_cases h2 : 5 < ls.length
        · exact ifT (decide_eq_true (by omega)) (yes _)
        refine ifF (decide_eq_false (by omega)) ?_
        refine ⟨_, rfl, t, _, _, vO d, rfl, rfl, hS, rfl, rfl, _, rfl, ?_⟩
        have hll := it.len
        cases d with
        | none => exact ifF rfl (no ⟨h1, by omega, fun i e => by cases e⟩)
        | some i =>
          refine ifT rfl ⟨_, rfl, t, _, _, .int i, rfl, rfl, hS, rfl, _, rfl, t, _, _, .int g, rfl, rfl, hS, rfl, _, _, rfl, rfl, _, rfl, ?_⟩
          by_cases h3 : g < i
          · exact ifT (decide_eq_true h3) (yes _)
          · exact ifF (decide_eq_false h3) (no ⟨h1, by omega, fun j e => by cases e; have := hc.2.2 i rfl; omega⟩)
      · refine ifF (decide_eq_false (ksn (a := c.kind) ?_)) ?_
        · cases c with
          | add n g d => exact absurd ⟨n, g, d, rfl⟩ hadd
          | drop n => exact (by decide +kernel : ("drop" : Str) ≠ "add")
          | rename n k => exact (by decide +kernel : ("rename" : Str) ≠ "add")
          | dfl n d => exact (by decide +kernel : ("default" : Str) ≠ "add")
          | grt n g w => exact (by decide +kernel : ("greatest" : Str) ≠ "add")
          | fill n i => exact (by decide +kernel : ("fill" : Str) ≠ "add")
        refine ⟨_, rfl, t, _, _, _, rfl, rfl, hS, at1 c, _, rfl, D, _, rfl, .inl (SqL.of hD2), rfl, hfl, _, rfl, ?_⟩
        by_cases h1 : Has cols c.name
        · refine ifF (show (!inV (.str c.name) _) = false by rw [hY _ h1]; rfl) ?_
          obtain ⟨j, cx, hj, hjn, hfirst⟩ := find_name nd h1
          obtain ⟨v, hv, rv⟩ : ∃ v, ls[j]? = some v ∧ LColN cx v H2 := by
            have hjl : j < ls.length := by
              have := (List.getElem?_eq_some_iff.mp hj).1
              rw [it.len]
              exact this
            exact ⟨_, List.getElem?_eq_getElem hjl, it2.each j cx _ hj (List.getElem?_eq_getElem hjl)⟩
          obtain ⟨a, sn, rfl, hsn, ha⟩ := rv
          have hA := SqT.of (K := K) ha
          refine ⟨_, rfl, _, rfl, .inl ⟨rfl, _, SqL.of hD2⟩, _, rfl, t, _, _, _, rfl, rfl, hS, at1 c, ?_⟩
          refine ⟨D, _, .str c.name, j, .str cx.name, rfl, rfl, SqL.of hD2, rfl, hfl, ?_, ?_, ?_, ?_⟩
          · rw [List.getElem?_map, List.getElem?_map, hj]
            rfl
          · show (cx.name == c.name) = true
            rw [hjn]
            exact beq_self_eq_true _
          · intro m z' hm hz
            rw [List.getElem?_map, List.getElem?_map] at hz
            cases e : cols[m]? with
            | none => rw [e] at hz; cases hz
            | some c' =>
              rw [e] at hz
              have hz := Option.some.inj hz
              subst hz
              show (c'.name == c.name) = false
              exact beq_eq_false_iff_ne.mpr (hfirst m c' hm e)
          refine ⟨l, _, _, .ref a, rfl, rfl, SqL.of hl2, ?_, ?_⟩
          · unfold atI ixN
            rw [if_pos (by omega), if_pos (by have := (List.getElem?_eq_some_iff.mp hv).1; omega)]
            show ls[((j : Nat) : Int).toNat]? = _
            rw [Int.toNat_natCast]
            exact hv
          have uniq : ∀ c' ∈ cols, c'.name = c.name → c' = cx := fun c' h e => one_name nd hj hjn h e
          refine ⟨_, rfl, t, _, _, _, rfl, rfl, hS, at0 c, rfl, _, rfl, ?_⟩
          cases c with
          | add n g d => exact absurd ⟨n, g, d, rfl⟩ hadd
          | rename n k2 =>
            refine ifT (decide_eq_true rfl) ?_
            refine ⟨_, rfl, t, _, _, .str k2, rfl, rfl, hS, rfl, _, rfl, D, _, rfl, .inl (SqL.of hD2), rfl, hfl, _, rfl, ?_⟩
            by_cases h2 : Has cols k2
            · exact ifT (hY k2 h2) (yes _)
            · exact ifF (hN k2 h2) (no ⟨h1, h2⟩)
          | drop n =>
            refine ifF (decide_eq_false (ksn (a := "drop") (by decide +kernel))) ?_
            refine ⟨_, rfl, t, _, _, _, rfl, rfl, hS, at0 _, rfl, _, rfl, ifT (decide_eq_true rfl) ?_⟩
            refine ⟨_, rfl, l, _, rfl, .inl (SqL.of hl2), rfl, _, rfl, ?_⟩
            have hll := it.len
            by_cases h2 : ls.length = 1
            · exact ifT (decide_eq_true (by rw [h2]; rfl)) (yes _)
            · exact ifF (decide_eq_false fun e => h2 (by have := V.int.inj e; omega)) (no ⟨h1, by omega⟩)
          | dfl n d =>
            refine ifF (decide_eq_false (ksn (a := "default") (by decide +kernel))) ?_
            refine ⟨_, rfl, t, _, _, _, rfl, rfl, hS, at0 _, rfl, _, rfl, ifF (decide_eq_false (ksn (a := "default") (by decide +kernel))) ?_⟩
            refine ⟨_, rfl, t, _, _, _, rfl, rfl, hS, at0 _, (by show 2 ≤ sizeLine; decide), fun p hp => ?_⟩
            have s3 : Same H2 (upd H2 p (.lst [.str "default", .str "fill"])) := Same.new hp
            have hS3 := s3.seqT hS
            have hA3 := s3.seqT hA
            refine ⟨p, _, rfl, .inl (SqL.of upd_same), rfl, (by decide +kernel), _, rfl, ifT (show inV (.str "default") [V.str "default", .str "fill"] = true by decide +kernel) ?_⟩
            refine ⟨_, rfl, t, _, _, vO d, rfl, rfl, hS3, rfl, rfl, _, rfl, ?_⟩
            cases d with
            | none => exact ifF rfl (k _ _ (s2.trans s3) (.inl ⟨rfl, h1, fun c' _ _ i e => by cases e⟩))
            | some i =>
              refine ifT rfl ⟨_, rfl, t, _, _, .int i, rfl, rfl, hS3, rfl, _, rfl, a, _, _, .int cx.most, rfl, rfl, hA3, rfl, _, _, rfl, rfl, _, rfl, ?_⟩
              by_cases h3 : cx.most < i
              · exact ifT (decide_eq_true h3) (k _ _ (s2.trans s3) (.inr ⟨_, rfl⟩))
              · refine ifF (decide_eq_false h3) (k _ _ (s2.trans s3) (.inl ⟨rfl, h1, fun c' h e j ej => ?_⟩))
                cases ej
                rw [uniq c' h e]
                have := hc.2 i rfl
                omega
          | fill n i =>
            refine ifF (decide_eq_false (ksn (a := "fill") (by decide +kernel))) ?_
            refine ⟨_, rfl, t, _, _, _, rfl, rfl, hS, at0 _, rfl, _, rfl, ifF (decide_eq_false (ksn (a := "fill") (by decide +kernel))) ?_⟩
            refine ⟨_, rfl, t, _, _, _, rfl, rfl, hS, at0 _, (by show 2 ≤ sizeLine; decide), fun p hp => ?_⟩
            have s3 : Same H2 (upd H2 p (.lst [.str "default", .str "fill"])) := Same.new hp
            have hS3 := s3.seqT hS
            have hA3 := s3.seqT hA
            refine ⟨p, _, rfl, .inl (SqL.of upd_same), rfl, (by decide +kernel), _, rfl, ifT (show inV (.str "fill") [V.str "default", .str "fill"] = true by decide +kernel) ?_⟩
            refine ⟨_, rfl, t, _, _, .int i, rfl, rfl, hS3, rfl, rfl, _, rfl, ?_⟩
            refine ifT rfl ⟨_, rfl, t, _, _, .int i, rfl, rfl, hS3, rfl, _, rfl, a, _, _, .int cx.most, rfl, rfl, hA3, rfl, _, _, rfl, rfl, _, rfl, ?_⟩
            by_cases h3 : cx.most < i
            · exact ifT (decide_eq_true h3) (k _ _ (s2.trans s3) (.inr ⟨_, rfl⟩))
            · refine ifF (decide_eq_false h3) (k _ _ (s2.trans s3) (.inl ⟨rfl, h1, fun c' h e => ?_⟩))
              rw [uniq c' h e]
              omega
          | grt n g ww =>
            refine ifF (decide_eq_false (ksn (a := "greatest") (by decide +kernel))) ?_
            refine ⟨_, rfl, t, _, _, _, rfl, rfl, hS, at0 _, rfl, _, rfl, ifF (decide_eq_false (ksn (a := "greatest") (by decide +kernel))) ?_⟩
            refine ⟨_, rfl, t, _, _, _, rfl, rfl, hS, at0 _, (by show 2 ≤ sizeLine; decide), fun p hp => ?_⟩
            have s3 : Same H2 (upd H2 p (.lst [.str "default", .str "fill"])) := Same.new hp
            have hS3 := s3.seqT hS
            have hA3 := s3.seqT hA
            have yes3 : ∀ s : Str, Q (.str s) (upd H2 p (.lst [.str "default", .str "fill"])) := fun s => k _ _ (s2.trans s3) (.inr ⟨s, rfl⟩)
            have no3 : Good cols (.grt n g ww) → Q .non (upd H2 p (.lst [.str "default", .str "fill"])) := fun g => k _ _ (s2.trans s3) (.inl ⟨rfl, g⟩)
            refine ⟨p, _, rfl, .inl (SqL.of upd_same), rfl, (by decide +kernel), _, rfl, ifF (show inV (.str "greatest") [V.str "default", .str "fill"] = false by decide +kernel) ?_⟩
            refine ⟨_, rfl, t, _, _, .str ww, rfl, rfl, hS3, rfl, rfl, _, rfl, ?_⟩
            by_cases hw : ww = ("refuse" : Str)
            · refine ifT (decide_eq_true (by rw [hw])) ?_
              refine ⟨_, rfl, a, _, _, vO cx.dflt, rfl, rfl, hA3, rfl, rfl, _, rfl, ?_⟩
              cases hd : cx.dflt with
              | none => exact ifF rfl (no3 ⟨h1, fun c' h e _ i ei => by rw [uniq c' h e, hd] at ei; cases ei⟩)
              | some i =>
                have hA4 : SqT K (upd H2 p (.lst [.str "default", .str "fill"])) a [.str cx.name, .int cx.most, .int i, .int sn] := by
                  have := hA3
                  rw [hd] at this
                  exact this
                refine ifT rfl ⟨_, rfl, a, _, _, .int i, rfl, rfl, hA4, rfl, _, rfl, t, _, _, .int g, rfl, rfl, hS3, rfl, _, _, rfl, rfl, _, rfl, ?_⟩
                by_cases h3 : g < i
                · exact ifT (decide_eq_true h3) (yes3 _)
                · refine ifF (decide_eq_false h3) (no3 ⟨h1, fun c' h e _ j ej => ?_⟩)
                  rw [uniq c' h e, hd] at ej
                  cases ej
                  omega
            · exact ifF (decide_eq_false (ksn hw)) (no3 ⟨h1, fun c' h e hw2 => absurd hw2 hw⟩)
        · exact ifT (show (!inV (.str c.name) _) = true by rw [hN _ h1]; rfl) (yes _)
end
end Ed
/-! Editionrows: the law's own defs, third part: a change done, the columns as objects. -/
namespace Ed
open PySem PySem.Spec PyProof.Rows L2
section
variable {P : Program} {w : World} {K : PySem.W.Frag} {mg : Str → Option Value} {base : Heap} {C CH : Addr}
/-! ### _law_cut -/
def spCut : Sp := fun vs H Q _ => ∃ (d : Option Int) (t : Addr) (n : Str) (g : Int) (ww : Str), vs = [vO d, .ref t] ∧ H t = some (.tup (Chg.grt n g ww).vals) ∧ Way ww ∧ (ww = ("refuse" : Str) → ∀ i, d = some i → i ≤ g) ∧ ∀ H', Same H H' → Q (vO (cutO g ww d)) H'
theorem sc_law_cut : FnScope ["_law_value_here", "_law_change_here"] ["_law_value_here", "_law_change_here"] (defScope s_law_cut) := ⟨rfl, rfl, rfl, by decide +kernel, rfl, by decide +kernel, by decide +kernel⟩
theorem ok_law_cut (T : Txt K mg w C CH) : Cal P w K mg base 1 "_law_cut" spCut [] := by
  refine cal_of T.d_law_cut sc_law_cut (fun _ _ _ _ _ _ us hl => match us, hl with | [_, _], _ => rfl) (fun vs H Q E h => ?_) (fun f cdv A outer s H vs Q E hr h => ?_)
  · obtain ⟨_, _, _, _, _, rfl, _⟩ := h
    rfl
  · obtain ⟨d, t, n, g, ww, rfl, ht, hw, hg, k⟩ := h
    have hu := hu_of hr
    refine ⟨_, pss_cons (ps_if (PW.pt (pw_or (pt_cmpR op_isN (pv 0) pe_non (nomark _)) (pw_or1 (pt_cmpR op_le (pv 0) (pe_ix ix_tup (pv 1) pe_int (fun _ _ => rfl)) (nomark _))))) (pss_one (ps_ret (pv 0))) pss_nil)
      (pss_one (ps_ret (pe_dget hu (pe_disp (pps_cons pe_str (pe_ix ix_tup (pv 1) pe_int (fun _ _ => rfl)) (pps_cons pe_str pe_non (pps_cons pe_str pe_str pps_nil))) (by rfl) (by rfl) (fun z => by cases z) (by decide)) (pe_ix ix_tup (pv 1) pe_int (fun _ _ => rfl)) (fun _ _ => rfl)))), ?_⟩
    have hS := SqT.of (K := K) ht
    cases d with
    | none => exact ⟨_, rfl, rfl, _, rfl, ifT rfl ⟨_, rfl, k _ (Same.refl _)⟩⟩
    | some i =>
      refine ⟨_, rfl, rfl, _, rfl, ifF rfl ?_⟩
      refine ⟨_, rfl, _, rfl, t, _, _, .int g, rfl, rfl, hS, rfl, _, _, rfl, rfl, _, rfl, ?_⟩
      by_cases h1 : i ≤ g
      · refine ifT (decide_eq_true h1) ⟨_, rfl, ?_⟩
        have e : cutO g ww (some i) = some i := if_pos h1
        rw [e] at k
        exact k _ (Same.refl _)
      · refine ifF (decide_eq_false h1) ?_
        have hne : ww ≠ ("refuse" : Str) := fun e => h1 (hg e i rfl)
        have m3 := merge3 (a := Sum.inr "cut") (b := Sum.inr "none") (c := Sum.inr "refuse") (x := V.int g) (y := V.non) (z := V.str "barred") (by decide +kernel) (by decide +kernel) (by decide +kernel)
        intro p hp
        have s1 : Same H (upd H p (.dK [])) := Same.new hp
        refine ⟨_, rfl, t, _, _, .int g, rfl, rfl, s1.seqT hS, rfl, upd_same, [((Sum.inr "cut" : Key), V.int g), ((Sum.inr "none" : Key), .non), ((Sum.inr "refuse" : Key), .str "barred")], rfl, (by show 3 ≤ 15; decide), ?_⟩
        rw [m3]
        have s2 : Same H (upd (upd H p (.dK [])) p (.dK [((Sum.inr "cut" : Key), V.int g), ((Sum.inr "none" : Key), .non), ((Sum.inr "refuse" : Key), .str "barred")])) := Same.upd s1 hp
        have hd := upd_same (H := upd H p (.dK [])) (a := p) (o := .dK [((Sum.inr "cut" : Key), V.int g), ((Sum.inr "none" : Key), .non), ((Sum.inr "refuse" : Key), .str "barred")])
        refine ⟨_, rfl, t, _, _, .str ww, rfl, rfl, s2.seqT hS, rfl, p, vO (cutO g ww (some i)), rfl, ?_, k _ s2⟩
        have e0 : cutO g ww (some i) = if ww = ("cut" : Str) then some g else none := if_neg h1
        rw [e0]
        rcases hw with rfl | rfl | rfl
        · rw [if_pos rfl]
          have e1 : valV [((Sum.inr "cut" : Key), V.int g), ((Sum.inr "none" : Key), .non), ((Sum.inr "refuse" : Key), .str "barred")] (Sum.inr "cut" : Key) = some (.int g) := valV_pos rfl
          show DGet _ p (kV (Sum.inr "cut")) (some (V.int g))
          rw [← e1]
          exact DGet.k hd
        · rw [if_neg (by decide +kernel)]
          have e1 : valV [((Sum.inr "cut" : Key), V.int g), ((Sum.inr "none" : Key), .non), ((Sum.inr "refuse" : Key), .str "barred")] (Sum.inr "none" : Key) = some .non := by
            rw [valV_neg (k := (Sum.inr "none" : Key)) (show ¬ (Sum.inr "cut" : Key) = (Sum.inr "none" : Key) from by decide +kernel)]
            exact valV_pos rfl
          show DGet _ p (kV (Sum.inr "none")) (some V.non)
          rw [← e1]
          exact DGet.k hd
        · exact absurd rfl hne
/-! ### _law_col_then -/
def spColThen : Sp := fun vs H Q _ => ∃ (t : Addr) (v : V) (c : Col) (ch : Chg), vs = [v, .ref t] ∧ LColN c v H ∧ H t = some (.tup ch.vals) ∧ ChgOk 3 ch ∧ NotAD ch ∧ (∀ n g w, ch = .grt n g w → w = ("refuse" : Str) → ∀ i, c.dflt = some i → i ≤ g) ∧
  ∀ H' v', Same H H' → LColN (colThen c ch) v' H' → Q v' H'
theorem sc_law_col_then : FnScope ["_law_col", "_law_change_here", "_law_name", "_law_most", "_law_given", "_law_seat"] ["_law_col", "_law_change_here"] (defScope s_law_col_then) := ⟨rfl, rfl, rfl, by decide +kernel, rfl, by decide +kernel, by decide +kernel⟩
theorem ok_law_col_then (T : Txt K mg w C CH) : Cal P w K mg base 2 "_law_col_then" spColThen [] := by
  refine cal_of T.d_law_col_then sc_law_col_then (fun _ _ _ _ _ _ us hl => match us, hl with | [_, _], _ => rfl) (fun vs H Q E h => ?_) (fun f cdv A outer s H vs Q E hr h => ?_)
  · obtain ⟨_, _, _, _, rfl, _⟩ := h
    rfl
  · obtain ⟨t, v, c, ch, rfl, ⟨a, sn, rfl, hsn, ha⟩, ht, hok, had, hg, k⟩ := h
    have hu := hu_of hr
    refine ⟨_, pss_cons (ps_asg (pv 0) (pg_tup rfl (pgs_cons (pg_name (i := 2) sc_law_col_then.nd rfl (Or.inl rfl)) (pgs_cons (pg_name (i := 3) sc_law_col_then.nd rfl (Or.inl rfl)) (pgs_cons (pg_name (i := 4) sc_law_col_then.nd rfl (Or.inl rfl)) (pgs_cons (pg_name (i := 5) sc_law_col_then.nd rfl (Or.inl rfl)) pgs_nil))))))
      (pss_cons (ps_if (pt_cmpR op_eq (pe_ix ix_tup (pv 1) pe_int (fun _ _ => rfl)) pe_str (nomark _)) (pss_one (ps_ret (pe_tup (pa_cons (pe_ix ix_tup (pv 1) pe_int (fun _ _ => rfl)) (pa_cons (pv 3) (pa_cons (pv 4) (pa_cons (pv 5) pa_nil))))))) pss_nil)
      (pss_cons (ps_if (pt_cmpR op_eq (pe_ix ix_tup (pv 1) pe_int (fun _ _ => rfl)) pe_str (nomark _)) (pss_one (ps_ret (pe_tup (pa_cons (pv 2) (pa_cons (pv 3) (pa_cons (pe_ix ix_tup (pv 1) pe_int (fun _ _ => rfl)) (pa_cons (pv 5) pa_nil))))))) pss_nil)
      (pss_cons (ps_if (pt_cmpR op_eq (pe_ix ix_tup (pv 1) pe_int (fun _ _ => rfl)) pe_str (nomark _)) (pss_one (ps_ret (pe_tup (pa_cons (pv 2) (pa_cons (pe_ix ix_tup (pv 1) pe_int (fun _ _ => rfl)) (pa_cons (C8.pe_c (ok_law_cut T) hr (by decide) rfl (pa_cons (pv 4) (pa_cons (pv 1) pa_nil))) (pa_cons (pv 5) pa_nil))))))) pss_nil)
      (pss_one (ps_ret (pv 0)))))), ?_⟩
    have hS := SqT.of (K := K) ht
    refine ⟨_, rfl, a, _, rfl, SqT.of ha, rfl, _, _, rfl, _, _, rfl, _, _, rfl, _, _, rfl, rfl, ?_⟩
    refine ⟨_, rfl, t, _, _, _, rfl, rfl, hS, at0 ch, rfl, _, rfl, ?_⟩
    have four : (4 : Nat) ≤ sizeLine := by decide
    cases ch with
    | add _ _ _ => exact had.elim
    | drop _ => exact had.elim
    | rename n k2 =>
      refine ifT (decide_eq_true rfl) ?_
      refine ⟨_, rfl, t, _, _, .str k2, rfl, rfl, hS, rfl, _, rfl, _, rfl, _, rfl, four, fun p hp => ?_⟩
      exact k _ _ (Same.new hp) ⟨p, sn, rfl, hsn, upd_same⟩
    | dfl n d =>
      refine ifF (decide_eq_false (ksn (a := "default") (by decide +kernel))) ?_
      refine ⟨_, rfl, t, _, _, _, rfl, rfl, hS, at0 _, rfl, _, rfl, ifT (decide_eq_true rfl) ?_⟩
      refine ⟨_, rfl, _, rfl, _, rfl, t, _, _, vO d, rfl, rfl, hS, rfl, _, rfl, four, fun p hp => ?_⟩
      exact k _ _ (Same.new hp) ⟨p, sn, rfl, hsn, upd_same⟩
    | grt n g ww =>
      refine ifF (decide_eq_false (ksn (a := "greatest") (by decide +kernel))) ?_
      refine ⟨_, rfl, t, _, _, _, rfl, rfl, hS, at0 _, rfl, _, rfl, ifF (decide_eq_false (ksn (a := "greatest") (by decide +kernel))) ?_⟩
      refine ⟨_, rfl, t, _, _, _, rfl, rfl, hS, at0 _, rfl, _, rfl, ifT (decide_eq_true rfl) ?_⟩
      refine ⟨_, rfl, _, rfl, t, _, _, .int g, rfl, rfl, hS, rfl, _, rfl, _, rfl, c.dflt, t, n, g, ww, rfl, ht, hok.2.2, hg n g ww rfl, fun H2 s2 => ⟨_, rfl, four, fun p hp => ?_⟩⟩
      exact k _ _ (s2.trans (Same.new hp)) ⟨p, sn, rfl, hsn, upd_same⟩
    | fill n i =>
      refine ifF (decide_eq_false (ksn (a := "fill") (by decide +kernel))) ?_
      refine ⟨_, rfl, t, _, _, _, rfl, rfl, hS, at0 _, rfl, _, rfl, ifF (decide_eq_false (ksn (a := "fill") (by decide +kernel))) ?_⟩
      refine ⟨_, rfl, t, _, _, _, rfl, rfl, hS, at0 _, rfl, _, rfl, ifF (decide_eq_false (ksn (a := "fill") (by decide +kernel))) ?_⟩
      exact ⟨_, rfl, k _ _ (Same.refl _) ⟨a, sn, rfl, hsn, ha⟩⟩
/-! ### _law_then -/
def spThen : Sp := fun vs H Q _ => ∃ (l t : Addr) (n : Int) (ls : List V) (cols : List Col) (c : Chg), vs = [.ref l, .ref t, .int n] ∧ 0 ≤ n ∧ H l = some (.lst ls) ∧ ItemsAt LColN cols ls H ∧ cols.length ≤ 100 ∧ H t = some (.tup c.vals) ∧ ChgOk 3 c ∧ Good cols c ∧
  ∀ H' p us, Same H H' → H p = none → H' p = some (.lst us) → ItemsAt LColN (thenC cols c) us H' → Q (.ref p) H'
theorem sc_law_then : FnScope ["_law_cols_here", "_law_change_here", "_law_seat", "_law_col"] ["_law_cols_here", "_law_change_here", "_law_seat"] (defScope s_law_then) := ⟨rfl, rfl, rfl, by decide +kernel, rfl, by decide +kernel, by decide +kernel⟩
theorem ok_law_then (T : Txt K mg w C CH) : Cal P w K mg base 3 "_law_then" spThen [] := by
  refine cal_of T.d_law_then sc_law_then (fun _ _ _ _ _ _ us hl => match us, hl with | [_, _, _], _ => rfl) (fun vs H Q E h => ?_) (fun f cdv A outer s H vs Q E hr h => ?_)
  · obtain ⟨_, _, _, _, _, _, rfl, _⟩ := h
    rfl
  · obtain ⟨l, t, n, ls, cols, c, rfl, hn, hl, it, hlen, ht, hok, gd, k⟩ := h
    refine ⟨_, pss_cons (ps_if (pt_cmpR op_eq (pe_ix ix_tup (pv 1) pe_int (fun _ _ => rfl)) pe_str (nomark _)) (pss_one (ps_ret (pe_op op_cat (pv 0) (pe_lst (pa_cons (pe_tup (pa_cons (pe_ix ix_tup (pv 1) pe_int (fun _ _ => rfl)) (pa_cons (pe_ix ix_tup (pv 1) pe_int (fun _ _ => rfl)) (pa_cons (pe_ix ix_tup (pv 1) pe_int (fun _ _ => rfl)) (pa_cons (pv 2) pa_nil))))) pa_nil))))) pss_nil)
      (pss_cons (ps_if (pt_cmpR op_eq (pe_ix ix_tup (pv 1) pe_int (fun _ _ => rfl)) pe_str (nomark _)) (pss_one (ps_ret (pe_lc (own := [("_law_col", 3)]) (g := gName 3) (tt := tTest (tOp rNe (tOp (rIxT K) (tVar 3) (tC (.int 0))) (tOp (rIxT K) (tVar 1) (tC (.int 1))))) (te := tVar 3) rfl sc_law_then.nd (pi_list (pv 0)) (blkOk_by (own := [("_law_col", 3)]) (N := ["_law_cols_here", "_law_change_here", "_law_seat", "_law_col"]) (sc := defScope s_law_then) (by decide +kernel))
          (fun _ _ _ _ _ => pg_name (i := 3) sc_law_then.nd rfl (Or.inl rfl)) (fun _ _ _ _ _ => pts_one (pt_cmpR op_ne (pe_ix ix_tup (pv 3) pe_int (fun _ _ => rfl)) (pe_ix ix_tup (pv 1) pe_int (fun _ _ => rfl)) (nomark _))) (fun _ _ _ _ _ => pv 3)))) pss_nil)
      (pss_one (ps_ret (pe_lc (own := [("_law_col", 3)]) (g := gName 3) (tt := tYes) (te := tIf (tTest (tOp rEq (tOp (rIxT K) (tVar 3) (tC (.int 0))) (tOp (rIxT K) (tVar 1) (tC (.int 1))))) (tCall spColThen [] C8.E0 (tCons (tVar 3) (tCons (tVar 1) tNil))) (tVar 3)) rfl sc_law_then.nd (pi_list (pv 0)) (blkOk_by (own := [("_law_col", 3)]) (N := ["_law_cols_here", "_law_change_here", "_law_seat", "_law_col"]) (sc := defScope s_law_then) (by decide +kernel))
          (fun _ _ _ _ _ => pg_name (i := 3) sc_law_then.nd rfl (Or.inl rfl)) (fun _ _ _ _ _ => pts_nil) (fun _ _ _ _ _ => pe_ifExp (pt_cmpR op_eq (pe_ix ix_tup (pv 3) pe_int (fun _ _ => rfl)) (pe_ix ix_tup (pv 1) pe_int (fun _ _ => rfl)) (nomark _)) (C8.pe_c (ok_law_col_then T) hr (by decide) rfl (pa_cons (pv 3) (pa_cons (pv 1) pa_nil))) (pv 3)))))), ?_⟩
    have hS := SqT.of (K := K) ht
    have hll := it.len
    refine ⟨_, rfl, t, _, _, _, rfl, rfl, hS, at0 c, rfl, _, rfl, ?_⟩
    have change : NotAD c → thenC cols c = cols.map (fun col => if col.name = c.name then colThen col c else col) →
        tLc (iList K (tVar 0)) (gName 3) tYes (tIf (tTest (tOp rEq (tOp (rIxT K) (tVar 3) (tC (.int 0))) (tOp (rIxT K) (tVar 1) (tC (.int 1))))) (tCall spColThen [] C8.E0 (tCons (tVar 3) (tCons (tVar 1) tNil))) (tVar 3)) [3] [some (.ref l), some (.ref t), some (.int n), none] H Q := fun hk hth => by
      refine ⟨_, rfl, l, rfl, ⟨_, SqL.of hl⟩, fun D hD => ?_⟩
      refine lc_map walk_list (fun i v H' => ∀ x, (thenC cols c)[i]? = some x → LColN x v H') (fun i v H2 H3 kk r x e => LColN.keep _ _ _ _ kk (r x e)) (by omega) hD (fun H2 s2 => (s2.seq (SqL.of hl))) (fun i x H2 H' Kt hi s2 y kt => ?_) (fun H2 acc s2 hD2 hl2 hr2 => ?_)
      · obtain ⟨rfl, hx⟩ := y
        obtain ⟨cx, hcx, rx⟩ := it.get hx
        have rx2 := LColN.keep _ _ _ _ s2.keep rx
        have hmem := List.mem_of_getElem? hcx
        have hget : (thenC cols c)[i]? = some (if cx.name = c.name then colThen cx c else cx) := by
          rw [hth, List.getElem?_map, hcx]
          rfl
        obtain ⟨a, sn, rfl, hsn, ha⟩ := id rx2
        refine ⟨rfl, ?_⟩
        refine ⟨_, rfl, a, _, _, .str cx.name, rfl, rfl, SqT.of ha, rfl, _, rfl, t, _, _, _, rfl, rfl, s2.seqT hS, at1 c, rfl, _, rfl, ?_⟩
        by_cases e : cx.name = c.name
        · refine ifT (decide_eq_true (by rw [e])) ?_
          rw [if_pos e] at hget
          refine ⟨_, rfl, _, rfl, t, .ref a, cx, c, rfl, rx2, s2 _ _ ht, hok, hk, fun n' g w' ec hw' i' ei => ?_, fun H3 v' s3 r3 => kt v' H3 s3 fun x ex => by
            rw [hget] at ex
            rw [← Option.some.inj ex]
            exact r3⟩
          subst ec
          exact gd.2 cx hmem e hw' i' ei
        · refine ifF (decide_eq_false (ksn e)) ?_
          rw [if_neg e] at hget
          exact ⟨_, rfl, kt _ _ (Same.refl _) fun x ex => by
            rw [hget] at ex
            rw [← Option.some.inj ex]
            exact rx2⟩
      · refine k H2 D acc s2 hD hD2 ⟨?_, fun i x v h1 h2 => hr2 i v h2 x h1⟩
        rw [hl2, hth, List.length_map]
        exact hll
    cases c with
    | add nm g dd =>
      refine ifT (decide_eq_true rfl) ?_
      refine ⟨_, rfl, _, rfl, t, _, _, .str nm, rfl, rfl, hS, rfl, _, rfl, t, _, _, .int g, rfl, rfl, hS, rfl, _, rfl, t, _, _, vO dd, rfl, rfl, hS, rfl, _, rfl, (by show 4 ≤ sizeLine; decide), fun p hp => ?_⟩
      have s1 : Same H (upd H p (.tup [.str nm, .int g, vO dd, .int n])) := Same.new hp
      refine ⟨(by show 1 ≤ sizeLine; decide), fun q hq => ?_⟩
      have s2 := Same.new (o := .lst [.ref p]) hq
      refine ⟨l, q, _, _, rfl, rfl, s2 _ _ (s1 _ _ hl), upd_same, small_le (by show ls.length + 1 ≤ 100000; omega), fun r hr' => ?_⟩
      have s3 := Same.new (o := .lst (ls ++ [.ref p])) hr'
      have s13 := (s1.trans s2).trans s3
      refine k _ r _ s13 ((s1.trans s2).free hr') upd_same ?_
      exact (it.keep LColN.keep s13.keep).snoc (x := (⟨nm, g, dd⟩ : Col)) (v := V.ref p) ⟨p, n, rfl, hn, s3 _ _ (s2 _ _ upd_same)⟩
    | drop nm =>
      refine ifF (decide_eq_false (ksn (a := "drop") (by decide +kernel))) ?_
      refine ⟨_, rfl, t, _, _, _, rfl, rfl, hS, at0 _, rfl, _, rfl, ifT (decide_eq_true rfl) ?_⟩
      refine ⟨_, rfl, l, rfl, ⟨_, SqL.of hl⟩, fun D hD => ?_⟩
      refine lc_list (K := K) (a := l) (xs := ls) (fun i H' => Same H H' ∧ ∃ acc, H' D = some (.lst acc) ∧ acc.length ≤ i ∧ ItemsAt LColN ((cols.take i).filter fun c => !decide (c.name = nm)) acc H') ⟨Same.new hD, [], upd_same, Nat.le_refl _, ItemsAt.nil⟩
        (fun i H' _ p => p.1.seq (SqL.of hl)) (fun i x H2 hx p => ?_) (fun H2 p => ?_)
      · obtain ⟨s2, acc, hD2, hla, ia⟩ := p
        obtain ⟨cx, hcx, rx⟩ := it.get hx
        have rx2 := LColN.keep _ _ _ _ s2.keep rx
        obtain ⟨a, sn, rfl, hsn, ha⟩ := id rx2
        have htk : cols.take (i + 1) = cols.take i ++ [cx] := by rw [List.take_add_one, hcx]; rfl
        have hi : i < ls.length := (List.getElem?_eq_some_iff.mp hx).1
        refine ⟨rfl, ?_⟩
        refine ⟨_, rfl, a, _, _, .str cx.name, rfl, rfl, SqT.of ha, rfl, _, rfl, t, _, _, _, rfl, rfl, s2.seqT hS, at1 _, rfl, _, rfl, ?_⟩
        by_cases e : cx.name = nm
        · refine ifF (show (!decide (V.str cx.name = V.str nm)) = false by rw [e]; simp) ?_
          refine ⟨s2, acc, hD2, by omega, ?_⟩
          rw [htk, List.filter_append, List.filter_cons, if_neg (by simp [e]), List.filter_nil, List.append_nil]
          exact ia
        · refine ifT (show (!decide (V.str cx.name = V.str nm)) = true by rw [decide_eq_false (ksn e)]; rfl) ?_
          refine ⟨_, rfl, acc, hD2, small_lt (by omega), Same.upd s2 hD, acc ++ [.ref a], upd_same, by rw [List.length_append, List.length_singleton]; omega, ?_⟩
          rw [htk, List.filter_append, List.filter_cons, if_pos (by simp [e]), List.filter_nil]
          exact (ia.snoc rx2).keep LColN.keep (Keep.lst hD2)
      · obtain ⟨s2, acc, hD2, hla, ia⟩ := p
        rw [hll, List.take_length] at ia
        exact k H2 D acc s2 hD hD2 ia
    | rename nm n2 =>
      refine ifF (decide_eq_false (ksn (a := "rename") (by decide +kernel))) ?_
      refine ⟨_, rfl, t, _, _, _, rfl, rfl, hS, at0 _, rfl, _, rfl, ifF (decide_eq_false (ksn (a := "rename") (by decide +kernel))) ?_⟩
      exact change trivial rfl
    | dfl nm dd =>
      refine ifF (decide_eq_false (ksn (a := "default") (by decide +kernel))) ?_
      refine ⟨_, rfl, t, _, _, _, rfl, rfl, hS, at0 _, rfl, _, rfl, ifF (decide_eq_false (ksn (a := "default") (by decide +kernel))) ?_⟩
      exact change trivial rfl
    | grt nm g ww =>
      refine ifF (decide_eq_false (ksn (a := "greatest") (by decide +kernel))) ?_
      refine ⟨_, rfl, t, _, _, _, rfl, rfl, hS, at0 _, rfl, _, rfl, ifF (decide_eq_false (ksn (a := "greatest") (by decide +kernel))) ?_⟩
      exact change trivial rfl
    | fill nm i =>
      refine ifF (decide_eq_false (ksn (a := "fill") (by decide +kernel))) ?_
      refine ⟨_, rfl, t, _, _, _, rfl, rfl, hS, at0 _, rfl, _, rfl, ifF (decide_eq_false (ksn (a := "fill") (by decide +kernel))) ?_⟩
      exact change trivial rfl
/-! ### _law_cols, _law_made -/
def spLawCols (C : Addr) : Sp := fun vs H Q _ => ∃ (l : Addr) (ls : List V) (cols : List Col), vs = [.ref l] ∧ H l = some (.lst ls) ∧ ItemsAt LColN cols ls H ∧ ColsOk cols ∧
  ∀ H' p us, Same H H' → H' p = some (.lst us) → ItemsAt (ColN C) cols us H' → Q (.ref p) H'
theorem sc_law_cols : FnScope ["_law_cols_here", "_law_col"] ["_law_cols_here"] (defScope s_law_cols) := ⟨rfl, rfl, rfl, by decide +kernel, rfl, by decide +kernel, by decide +kernel⟩
theorem ok_law_cols (T : Txt K mg w C CH) : Cal P w K mg base 6 "_law_cols" (spLawCols C) [] := by
  refine cal_of T.d_law_cols sc_law_cols (fun _ _ _ _ _ _ us hl => match us, hl with | [_], _ => rfl) (fun vs H Q E h => ?_) (fun f cdv A outer s H vs Q E hr h => ?_)
  · obtain ⟨_, _, _, rfl, _⟩ := h
    rfl
  · obtain ⟨l, ls, cols, rfl, hl, it, co, k⟩ := h
    refine ⟨_, pss_one (ps_ret (pe_lc (own := [("_law_col", 1)]) (g := gName 1) (tt := tYes) (te := tMakeK C 3 1 (spColInit C) (fun vs zs => vs ++ zs) E0 (tCons (tOp (rIxT K) (tVar 1) (tC (.int 0))) (tCons (tOp (rIxT K) (tVar 1) (tC (.int 1))) (tCons (tOp (rIxT K) (tVar 1) (tC (.int 2))) tNil))) (tCons (tOp (rIxT K) (tVar 1) (tC (.int 3))) tNil)) rfl sc_law_cols.nd (pi_list (pv 0)) (blkOk_by (own := [("_law_col", 1)]) (N := ["_law_cols_here", "_law_col"]) (sc := defScope s_law_cols) (by decide +kernel))
        (fun _ _ _ _ _ => pg_name (i := 1) sc_law_cols.nd rfl (Or.inl rfl)) (fun _ _ _ _ _ => pts_nil) (fun _ _ _ _ _ => pe_colK T hr (by decide) (pa_cons (pe_ix ix_tup (pv 1) pe_int (fun _ _ => rfl)) (pa_cons (pe_ix ix_tup (pv 1) pe_int (fun _ _ => rfl)) (pa_cons (pe_ix ix_tup (pv 1) pe_int (fun _ _ => rfl)) pa_nil))) (pk_cons (pe_ix ix_tup (pv 1) pe_int (fun _ _ => rfl)) pk_nil)))), ?_⟩
    have hll := it.len
    refine ⟨_, rfl, l, rfl, ⟨_, SqL.of hl⟩, fun D hD => ?_⟩
    refine lc_map walk_list (fun i v H' => ∀ c, cols[i]? = some c → ColN C c v H') (fun i v H2 H3 kk r c e => ColN.keep _ _ _ _ kk (r c e)) (by have := co.most; omega) hD (fun H2 s2 => (s2.seq (SqL.of hl))) (fun i x H2 H' Kt hi s2 y kt => ?_) (fun H2 acc s2 hD2 hl2 hr2 => ?_)
    · obtain ⟨rfl, hx⟩ := y
      obtain ⟨c, hc, rc⟩ := it.get hx
      obtain ⟨a, sn, rfl, hsn, ha⟩ := LColN.keep _ _ _ _ s2.keep rc
      have hA := SqT.of (K := K) ha
      have cv := (co.each c (List.mem_of_getElem? hc)).v (by decide) (n := sn) hsn
      refine ⟨rfl, ?_⟩
      refine ⟨_, rfl, a, _, _, .str c.name, rfl, rfl, hA, rfl, _, rfl, a, _, _, .int c.most, rfl, rfl, hA, rfl, _, rfl, a, _, _, vO c.dflt, rfl, rfl, hA, rfl, _, rfl, a, _, _, .int sn, rfl, rfl, hA, rfl, ?_⟩
      exact colK_fin cv fun H4 z s4 _ h4 => kt _ H4 s4 fun c' e' => by
        rw [hc] at e'
        rw [← Option.some.inj e']
        exact ⟨sn, hsn, h4⟩
    · exact k H2 D acc s2 hD2 ⟨by rw [hl2, hll], fun i c v h1 h2 => hr2 i v h2 c h1⟩
def spLawMade (C CH : Addr) : Sp := fun vs H Q _ => ∃ (d : Addr) (cols : List Col) (cs : List Chg), vs = [.ref d] ∧ LawH H d cols cs ∧ HistOk cols cs ∧ ∀ H' a, Same H H' → HistAt C CH H' a cols cs → Q (.ref a) H'
theorem sc_law_made : FnScope ["_law_h"] ["_law_h"] (defScope s_law_made) := ⟨rfl, rfl, rfl, by decide +kernel, rfl, by decide +kernel, by decide +kernel⟩
theorem ok_law_made (T : Txt K mg w C CH) : Cal P w K mg base 12 "_law_made" (spLawMade C CH) [] := by
  refine cal_of T.d_law_made sc_law_made (fun _ _ _ _ _ _ us hl => match us, hl with | [_], _ => rfl) (fun vs H Q E h => ?_) (fun f cdv A outer s H vs Q E hr h => ?_)
  · obtain ⟨_, _, _, rfl, _⟩ := h
    rfl
  · obtain ⟨d, cols, cs, rfl, hA, ho, k⟩ := h
    have hu := hu_of hr
    refine ⟨_, pss_one (ps_ret (pe_hist T hr (by decide) (pa_cons (C8.pe_c (ok_law_cols T) hr (by decide) rfl (pa_cons (pe_ix ix_list (pe_dget hu (pv 0) pe_str (fun _ _ => rfl)) pe_int (fun _ _ => rfl)) pa_nil)) (pa_cons (pe_dget hu (pv 0) pe_str (fun _ _ => rfl)) pa_nil)))), ?_⟩
    obtain ⟨sl, cl, l, g, rest, ls, ts, a1, a2, a3, a4, a5, a6⟩ := hA.ex
    refine ⟨_, rfl, d, _, rfl, by rw [← hkv_sheets sl cl g]; exact DGet.k (k := Sum.inr "sheets") a1, sl, _, _, _, rfl, rfl, SqL.of a2, atI_0, ?_⟩
    refine ⟨l, ls, cols, rfl, a3, a4, ho.co, fun H2 p us s2 hp iu => ?_⟩
    refine ⟨_, rfl, d, _, rfl, by rw [← hkv_changes sl cl g]; exact DGet.k (k := Sum.inr "changes") (s2 _ _ a1), ?_⟩
    have hB : HArgs C H2 p cl us ts cols cs := ⟨hp, iu, s2 _ _ a5, a6.keep ChgT.keep s2.keep, ho.co, ho.ne, ho.ch, ho.ok, ho.len⟩
    exact hist_fin hB fun H4 z s4 _ h4 => k H4 z (s2.trans s4) h4
end
end Ed
/-! Editionrows: the law's own defs, fourth part: a history drawn. -/
namespace Ed
open PySem PySem.Spec PyProof.Rows L2
theorem dg_sheets {H : Hp} {d sl cl : Addr} {g : Int} (h : H d = some (.dK (hkv sl cl g))) : DGet H d (.str "sheets") (some (.ref sl)) := by
  rw [← hkv_sheets sl cl g]
  exact DGet.k (k := Sum.inr "sheets") h
theorem dg_changes {H : Hp} {d sl cl : Addr} {g : Int} (h : H d = some (.dK (hkv sl cl g))) : DGet H d (.str "changes") (some (.ref cl)) := by
  rw [← hkv_changes sl cl g]
  exact DGet.k (k := Sum.inr "changes") h
theorem dg_given {H : Hp} {d sl cl : Addr} {g : Int} (h : H d = some (.dK (hkv sl cl g))) : DGet H d (.str "given") (some (.int g)) := by
  rw [← hkv_given sl cl g]
  exact DGet.k (k := Sum.inr "given") h
theorem hkv_put (sl cl : Addr) (g g' : Int) : putK (hkv sl cl g) (Sum.inr "given" : Key) (.int g') = hkv sl cl g' := by
  have h1 : ¬ (Sum.inr "sheets" : Key) = (Sum.inr "given" : Key) := by decide +kernel
  have h2 : ¬ (Sum.inr "changes" : Key) = (Sum.inr "given" : Key) := by decide +kernel
  unfold putK
  rw [valV_any, hkv_given]
  rw [if_pos (by rfl)]
  unfold hkv
  rw [List.map_cons, List.map_cons, List.map_cons, List.map_nil, if_neg h1, if_neg h2, if_pos rfl]
theorem hkv_merge (sl cl : Addr) (g : Int) : mergeK [] [((Sum.inr "sheets" : Key), V.ref sl), ((Sum.inr "changes" : Key), V.ref cl), ((Sum.inr "given" : Key), V.int g)] = hkv sl cl g :=
  merge3 (by decide +kernel) (by decide +kernel) (by decide +kernel)
theorem dp_given {H : Hp} {d sl cl : Addr} {g : Int} (g' : Int) (h : H d = some (.dK (hkv sl cl g))) : DPut H d (.str "given") (.int g') (upd H d (.dK (hkv sl cl g'))) := by
  rw [← hkv_put sl cl g g']
  exact DPut.k (k := Sum.inr "given") h (small_lt (by show 3 < 100000; decide))
section
variable {P : Program} {w : World} {K : PySem.W.Frag} {mg : Str → Option Value} {base : Heap} {C CH : Addr}
/-- what the loop of _law_history keeps -/
structure HLoop (H : Hp) (pl d sl cl l : Addr) (cols : List Col) (i : Nat) (H' : Hp) (g : Int) (cs : List Chg) (ll : Addr) (rest ls lls ts : List V) : Prop where
  bt : But pl H H'
  pool : PoolAt pl H'
  hd : H' d = some (.dK (hkv sl cl g))
  g0 : 0 ≤ g
  hsl : H' sl = some (.lst (.ref l :: rest))
  last : (V.ref l :: rest)[rest.length]? = some (.ref ll)
  hl : H' l = some (.lst ls)
  it : ItemsAt LColN cols ls H'
  hll : H' ll = some (.lst lls)
  itl : ItemsAt LColN (lastC cols cs) lls H'
  hcl : H' cl = some (.lst ts)
  ct : ItemsAt ChgT cs ts H'
  ch : Chain cols cs
  ok : ∀ c ∈ cs, ChgOk 3 c
  le : cs.length ≤ i
  lr : rest.length ≤ i
  n1 : ll ≠ pl
  n2 : ll ≠ sl
  n3 : ll ≠ cl
/-- the addresses apart -/
structure Apart (pl d sl cl l : Addr) : Prop where
  pd : d ≠ pl
  ps : sl ≠ pl
  pc : cl ≠ pl
  pl_ : l ≠ pl
  sc : sl ≠ cl
  ls : l ≠ sl
  lc : l ≠ cl
theorem HLoop.but {H : Hp} {pl d sl cl l : Addr} {cols : List Col} {i : Nat} {H' H2 : Hp} {g : Int} {cs : List Chg} {ll : Addr} {rest ls lls ts : List V} (h : HLoop H pl d sl cl l cols i H' g cs ll rest ls lls ts) (a : Apart pl d sl cl l) (b : But pl H' H2) (p : PoolAt pl H2) : HLoop H pl d sl cl l cols i H2 g cs ll rest ls lls ts :=
  have kp := b.keep h.pool
  ⟨h.bt.trans b, p, b _ _ a.pd h.hd, h.g0, b _ _ a.ps h.hsl, h.last, b _ _ a.pl_ h.hl, h.it.keep LColN.keep kp, b _ _ h.n1 h.hll, h.itl.keep LColN.keep kp, b _ _ a.pc h.hcl, h.ct.keep ChgT.keep kp, h.ch, h.ok, h.le, h.lr, h.n1, h.n2, h.n3⟩
theorem HLoop.next {H : Hp} {pl d sl cl l : Addr} {cols : List Col} {i : Nat} {H' : Hp} {g : Int} {cs : List Chg} {ll : Addr} {rest ls lls ts : List V} (h : HLoop H pl d sl cl l cols i H' g cs ll rest ls lls ts) : HLoop H pl d sl cl l cols (i + 1) H' g cs ll rest ls lls ts :=
  ⟨h.bt, h.pool, h.hd, h.g0, h.hsl, h.last, h.hl, h.it, h.hll, h.itl, h.hcl, h.ct, h.ch, h.ok, Nat.le_succ_of_le h.le, Nat.le_succ_of_le h.lr, h.n1, h.n2, h.n3⟩
def spLawHistory : Sp := fun vs H Q _ => ∃ pl : Addr, vs = [.ref pl, .int 8, .int 3] ∧ PoolAt pl H ∧ ∀ H' d cols cs, But pl H H' → PoolAt pl H' → LawH H' d cols cs → HistOk cols cs → Q (.ref d) H'
theorem sc_law_history : FnScope ["_law_pool_here", "_law_many", "_law_most", "_law_h", "_law_turn", "_law_change_here"] ["_law_pool_here", "_law_many", "_law_most"] (defScope s_law_history) := ⟨rfl, rfl, rfl, by decide +kernel, rfl, by decide +kernel, by decide +kernel⟩
theorem ok_law_history (T : Txt K mg w C CH) : Cal P w K mg base 5 "_law_history" spLawHistory [] := by
  refine cal_of T.d_law_history sc_law_history (fun _ _ _ _ _ _ us hl => match us, hl with | [_, _, _], _ => rfl) (fun vs H Q E h => ?_) (fun f cdv A outer s H vs Q E hr h => ?_)
  · obtain ⟨_, rfl, _⟩ := h
    rfl
  · obtain ⟨pl, rfl, hp, k⟩ := h
    have hu := hu_of hr
    refine ⟨_, pss_cons (ps_set (i := 3) sc_law_history.nd rfl (Or.inl rfl) (pe_disp (pps_cons pe_str (pe_lst (pa_cons (C8.pe_c (ok_law_first T) hr (by decide) rfl (pa_cons (pv 0) (pa_cons (pv 2) pa_nil))) pa_nil)) (pps_cons pe_str (pe_lst pa_nil) (pps_cons pe_str pe_int pps_nil))) (by rfl) (by rfl) (fun z => by cases z) (by decide)))
      (pss_cons (ps_dput hu (pv 3) pe_str (pe_callB call_len_seq rfl T.b_len PySem.boot_len (pa_cons (pe_ix ix_list (pe_dget hu (pv 3) pe_str (fun _ _ => rfl)) pe_int (fun _ _ => rfl)) pa_nil)) rfl)
      (pss_cons (ps_for PassesOwn.never rfl (pi_range1 rfl T.b_range (pa_cons (C8.pe_c (ok_law_draw T) hr (by decide) rfl (pa_cons (pv 0) (pa_cons (pe_op op_add (pv 1) pe_int) pa_nil))) pa_nil)) (pg_name (i := 4) sc_law_history.nd rfl (Or.inl rfl))
        (pss_cons (ps_set (i := 5) sc_law_history.nd rfl (Or.inl rfl) (C8.pe_c (ok_law_change T) hr (by decide) rfl (pa_cons (pv 0) (pa_cons (pv 2) pa_nil))))
        (pss_one (ps_if (pt_cmpR op_isN (C8.pe_c (ok_law_word T) hr (by decide) rfl (pa_cons (pe_ix ix_list (pe_dget hu (pv 3) pe_str (fun _ _ => rfl)) (pe_un un_neg pe_int) (fun _ _ => rfl)) (pa_cons (pv 5) pa_nil))) pe_non (nomark _))
          (pss_cons (ps_expr (pe_bm PySem.F.plainAttrs_list PySem.F.slot_list_append PySem.F.type_list_append mt_append (pe_dget hu (pv 3) pe_str (fun _ _ => rfl)) (pa_cons (C8.pe_c (ok_law_then T) hr (by decide) rfl (pa_cons (pe_ix ix_list (pe_dget hu (pv 3) pe_str (fun _ _ => rfl)) (pe_un un_neg pe_int) (fun _ _ => rfl)) (pa_cons (pv 5) (pa_cons (pe_dget hu (pv 3) pe_str (fun _ _ => rfl)) pa_nil)))) pa_nil)))
          (pss_cons (ps_expr (pe_bm PySem.F.plainAttrs_list PySem.F.slot_list_append PySem.F.type_list_append mt_append (pe_dget hu (pv 3) pe_str (fun _ _ => rfl)) (pa_cons (pv 5) pa_nil)))
          (pss_one (ps_dput hu (pv 3) pe_str (pe_op op_add (pe_dget hu (pv 3) pe_str (fun _ _ => rfl)) (pe_callTy call_int1 rfl T.b_int boot_int (pa_cons (pe_cmpR op_eq (pe_ix ix_tup (pv 5) pe_int (fun _ _ => rfl)) pe_str (nomark _)) pa_nil))) rfl))))
          pss_nil))))
      (pss_one (ps_ret (pv 3))))), ?_⟩
    intro d hdn
    have hpd := hp.free hdn
    have s0 : Same H (upd H d (.dK [])) := Same.new hdn
    refine ⟨_, rfl, _, rfl, pl, rfl, hp.same s0, fun H1 l ls cols b1 hp1 hl1 it co hne hln => ⟨(by show 1 ≤ sizeLine; decide), fun sl hsl => ⟨(by show 0 ≤ sizeLine; decide), fun cl hcl => ?_⟩⟩⟩
    have hd1 := b1 d _ hpd.symm (upd_same (H := H) (a := d) (o := .dK []))
    have s2 : Same H1 (upd H1 sl (.lst [.ref l])) := Same.new hsl
    have s3 : Same (upd H1 sl (.lst [.ref l])) (upd (upd H1 sl (.lst [.ref l])) cl (.lst [])) := Same.new hcl
    have hdl : d ≠ l := fun e => by rw [← e, upd_same] at hln; cases hln
    have hls : l ≠ sl := ne_of_none hl1 hsl
    have hds : d ≠ sl := ne_of_none hd1 hsl
    have hdc : d ≠ cl := ne_of_none (s2 _ _ hd1) hcl
    have hlc : l ≠ cl := ne_of_none (s2 _ _ hl1) hcl
    have hsc : sl ≠ cl := ne_of_none (upd_same (H := H1) (a := sl) (o := .lst [.ref l])) hcl
    have hps : pl ≠ sl := hp1.free hsl
    have hpc : pl ≠ cl := (hp1.same s2).free hcl
    have hpl : pl ≠ l := fun e => by
      obtain ⟨x, y, q, _⟩ := hp.same s0
      rw [e, hln] at q
      cases q
    have ap : Apart pl d sl cl l := ⟨hpd.symm, hps.symm, hpc.symm, hpl.symm, hsc, hls, hlc⟩
    have s23 := s2.trans s3
    refine ⟨s23 _ _ hd1, [((Sum.inr "sheets" : Key), V.ref sl), ((Sum.inr "changes" : Key), V.ref cl), ((Sum.inr "given" : Key), V.int 0)], rfl, (by show 3 ≤ 15; decide), ?_⟩
    rw [hkv_merge]
    have hcl3 := upd_same (H := upd H1 sl (.lst [.ref l])) (a := cl) (o := .lst [])
    have hsl3 := s3 _ _ (upd_same (H := H1) (a := sl) (o := .lst [.ref l]))
    have hl3 := s23 _ _ hl1
    have hp3 := hp1.same s23
    have it3 := it.keep LColN.keep s23.keep
    have hd3 := s23 _ _ hd1
    have b3 : But pl (upd H d (.dK [])) (upd (upd H1 sl (.lst [.ref l])) cl (.lst [])) := b1.trans (s23.but pl)
    generalize upd (upd H1 sl (.lst [.ref l])) cl (.lst []) = H3 at hcl3 hsl3 hl3 hp3 it3 hd3 b3
    have b03 : ∀ o, But pl H (upd H3 d o) := fun o => ((s0.but pl).trans b3).upd hdn
    have hd4 := upd_same (H := H3) (a := d) (o := .dK (hkv sl cl 0))
    have hsl4 : (upd H3 d (.dK (hkv sl cl 0))) sl = some (.lst [.ref l]) := by rw [upd_ne hds.symm]; exact hsl3
    have hl4 : (upd H3 d (.dK (hkv sl cl 0))) l = some (.lst ls) := by rw [upd_ne hdl.symm]; exact hl3
    refine ⟨_, rfl, d, _, rfl, dg_sheets hd4, sl, _, _, _, rfl, rfl, SqL.of hsl4, atI_0, l, ls, rfl, .inl (SqL.of hl4), _, rfl, d, _, rfl, dp_given _ hd4, ?_⟩
    have hH5 : HLoop H pl d sl cl l cols 0 (upd (upd H3 d (.dK (hkv sl cl 0))) d (.dK (hkv sl cl (ls.length : Nat)))) (ls.length : Nat) [] l [] ls ls [] := by
      have kp : Keep H3 (upd (upd H3 d (.dK (hkv sl cl 0))) d (.dK (hkv sl cl (ls.length : Nat)))) := (Keep.dk hd3).trans (Keep.dk hd4)
      refine ⟨(b03 _).upd hdn, (hp3.other hpd).other hpd, upd_same, by omega, by rw [upd_ne hds.symm]; exact hsl4, rfl, by rw [upd_ne hdl.symm]; exact hl4, it3.keep LColN.keep kp, by rw [upd_ne hdl.symm]; exact hl4, it3.keep LColN.keep kp, ?_, ItemsAt.nil, trivial, (fun c h => by cases h), Nat.le_refl _, Nat.le_refl _, hpl.symm, hls, hlc⟩
      rw [upd_ne hdc.symm, upd_ne hdc.symm]
      exact hcl3
    generalize upd (upd H3 d (.dK (hkv sl cl 0))) d (.dK (hkv sl cl (ls.length : Nat))) = H5 at hH5
    refine ⟨_, rfl, _, rfl, _, _, rfl, rfl, pl, 9, rfl, hH5.pool, by decide, by decide, fun H6 n n0 n1 b6 hp6 => ?_⟩
    have hH6 := hH5.but ap b6 hp6
    refine ⟨n, rfl, by omega, by omega, ?_⟩
    have hsln : H sl = none := by
      have e : (upd H d (.dK [])) sl = none := b1.free hps hsl
      rw [upd_ne hds.symm] at e
      exact e
    have hcln : H cl = none := by
      have e : (upd H d (.dK [])) cl = none := b1.free hpc (s2.free hcl)
      rw [upd_ne hdc.symm] at e
      exact e
    refine for_it (walk_range (lo := 0) (n := n.toNat)) (fun i σ H' => ∃ (x4 x5 : Option V) (g : Int) (cs : List Chg) (ll : Addr) (rest ls lls ts : List V), σ = [some (.ref pl), some (.int 8), some (.int 3), some (.ref d), x4, x5] ∧ HLoop H pl d sl cl l cols i H' g cs ll rest ls lls ts)
      ⟨_, _, _, [], l, [], ls, ls, [], rfl, hH6⟩ (fun _ _ _ _ _ => trivial) ?_ ?_
    · rintro i x σ H7 H8 hi ⟨x4, x5, g, cs, ll, rest, ls, lls, ts, rfl, h7⟩ ⟨rfl, rfl⟩
      refine ⟨_, rfl, _, rfl, pl, 3, rfl, h7.pool, by decide, by decide, fun H9 t c hok b9 hp9 ht9 => ?_⟩
      have h9 := h7.but ap b9 hp9
      have hlst : atI (V.ref l :: rest) (-1) = some (.ref ll) := atI_last (by rw [List.length_cons]; exact h9.last)
      have lok := lastC_ok co h9.ok h9.ch
      refine ⟨_, rfl, d, _, rfl, dg_sheets h9.hd, 1, rfl, sl, _, _, _, rfl, rfl, SqL.of h9.hsl, hlst, _, rfl, ll, t, lls, _, c, rfl, h9.hll, h9.itl, lok.nd, (by have := lok.most; omega), ht9, hok, fun H10 v s10 hv => ?_⟩
      have h10 := h9.but ap (s10.but pl) (h9.pool.same s10)
      have ht10 := s10 _ _ ht9
      rcases hv with ⟨rfl, gd⟩ | ⟨sv, rfl⟩
      · refine ⟨rfl, _, rfl, ifT rfl ?_⟩
        refine ⟨_, rfl, d, _, rfl, dg_sheets h10.hd, .inl ⟨rfl, _, SqL.of h10.hsl⟩, ?_⟩
        refine ⟨_, rfl, d, _, rfl, dg_sheets h10.hd, 1, rfl, sl, _, _, _, rfl, rfl, SqL.of h10.hsl, hlst, _, rfl, _, rfl, d, _, rfl, dg_given h10.hd, ?_⟩
        refine ⟨ll, t, g, lls, _, c, rfl, h10.g0, h10.hll, h10.itl, (by have := lok.most; omega), ht10, hok, gd, fun H11 p us s11 hpn hpu itp => ?_⟩
        have h11 := h10.but ap (s11.but pl) (h10.pool.same s11)
        have ht11 := s11 _ _ ht10
        have pns : p ≠ sl := (ne_of_none h10.hsl hpn).symm
        have pnc : p ≠ cl := (ne_of_none h10.hcl hpn).symm
        have pnp : p ≠ pl := (h10.pool.free hpn).symm
        refine ⟨sl, _, _, rfl, rfl, h11.hsl, small_lt (by rw [List.length_cons]; have := h11.lr; omega), ?_⟩
        have k12 : Keep H11 (upd H11 sl (.lst (V.ref l :: rest ++ [.ref p]))) := Keep.lst h11.hsl
        have hds' : d ≠ sl := hds
        have hd12 : (upd H11 sl (.lst (V.ref l :: rest ++ [.ref p]))) d = some (.dK (hkv sl cl g)) := by rw [upd_ne hds]; exact h11.hd
        have hcl12 : (upd H11 sl (.lst (V.ref l :: rest ++ [.ref p]))) cl = some (.lst ts) := by rw [upd_ne hsc.symm]; exact h11.hcl
        have hsl12 := upd_same (H := H11) (a := sl) (o := .lst (V.ref l :: rest ++ [.ref p]))
        have hl12 : (upd H11 sl (.lst (V.ref l :: rest ++ [.ref p]))) l = some (.lst ls) := by rw [upd_ne hls]; exact h11.hl
        have hp12 : (upd H11 sl (.lst (V.ref l :: rest ++ [.ref p]))) p = some (.lst us) := by rw [upd_ne pns]; exact hpu
        have pool12 : PoolAt pl (upd H11 sl (.lst (V.ref l :: rest ++ [.ref p]))) := h11.pool.other hps
        have b12 : But pl H (upd H11 sl (.lst (V.ref l :: rest ++ [.ref p]))) := h11.bt.upd hsln
        generalize upd H11 sl (.lst (V.ref l :: rest ++ [.ref p])) = H12 at k12 hd12 hcl12 hsl12 hl12 hp12 pool12 b12
        refine ⟨_, rfl, d, _, rfl, dg_changes hd12, .inl ⟨rfl, _, SqL.of hcl12⟩, _, rfl, cl, _, _, rfl, rfl, hcl12, small_lt (by have := h11.ct.len; have := h11.le; omega), ?_⟩
        have k13 : Keep H12 (upd H12 cl (.lst (ts ++ [.ref t]))) := Keep.lst hcl12
        have hd13 : (upd H12 cl (.lst (ts ++ [.ref t]))) d = some (.dK (hkv sl cl g)) := by rw [upd_ne hdc]; exact hd12
        have hsl13 : (upd H12 cl (.lst (ts ++ [.ref t]))) sl = some (.lst (V.ref l :: rest ++ [.ref p])) := by rw [upd_ne hsc]; exact hsl12
        have hl13 : (upd H12 cl (.lst (ts ++ [.ref t]))) l = some (.lst ls) := by rw [upd_ne hlc]; exact hl12
        have hp13 : (upd H12 cl (.lst (ts ++ [.ref t]))) p = some (.lst us) := by rw [upd_ne pnc]; exact hp12
        have hcl13 := upd_same (H := H12) (a := cl) (o := .lst (ts ++ [.ref t]))
        have pool13 : PoolAt pl (upd H12 cl (.lst (ts ++ [.ref t]))) := pool12.other hpc
        have b13 : But pl H (upd H12 cl (.lst (ts ++ [.ref t]))) := b12.upd hcln
        generalize upd H12 cl (.lst (ts ++ [.ref t])) = H13 at k13 hd13 hsl13 hl13 hp13 hcl13 pool13 b13
        have kk := k12.trans k13
        have ht13 := kk t (.tup c.vals) trivial ht11
        refine ⟨_, rfl, d, _, rfl, dg_given hd13, _, rfl, t, _, _, _, rfl, rfl, SqT.of ht13, at0 c, rfl, .inr ⟨_, rfl, _, _, rfl, rfl, _, rfl, d, _, rfl, dp_given _ hd13, ?_⟩⟩
        have k14 := fun g' => kk.trans (Keep.dk (ys := hkv sl cl g') hd13)
        have hdl' : l ≠ d := hdl.symm
        have pnd : p ≠ d := (ne_of_none h10.hd hpn).symm
        refine ⟨_, _, _, cs ++ [c], p, rest ++ [.ref p], ls, us, ts ++ [.ref t], rfl, b13.upd hdn, pool13.other hpd, upd_same, ?_, by rw [upd_ne hds.symm]; exact hsl13, ?_, by rw [upd_ne hdl']; exact hl13, h11.it.keep LColN.keep (k14 _), by rw [upd_ne pnd]; exact hp13, ?_, by rw [upd_ne hdc.symm]; exact hcl13, ?_, chain_snoc h11.ch gd, ?_, ?_, ?_, pnp, pns, pnc⟩
        · have := h11.g0
          split <;> omega
        · rw [List.length_append, List.length_singleton]
          show (rest ++ [V.ref p])[rest.length]? = some (.ref p)
          rw [List.getElem?_append_right (Nat.le_refl _), Nat.sub_self]
          rfl
        · rw [lastC_snoc]
          exact itp.keep LColN.keep (k14 _)
        · exact (h11.ct.snoc (x := c) (v := V.ref t) ⟨t, rfl, ht11⟩).keep ChgT.keep (k14 _)
        · intro c' hc'
          rcases List.mem_append.mp hc' with h | h
          · exact h11.ok c' h
          · rw [List.mem_singleton.mp h]
            exact hok
        · rw [List.length_append, List.length_singleton]
          have := h11.le
          omega
        · rw [List.length_append, List.length_singleton]
          have := h11.lr
          omega
      · refine ⟨rfl, _, rfl, ifF rfl ?_⟩
        exact ⟨_, _, g, cs, ll, rest, ls, lls, ts, rfl, h10.next⟩
    · rintro σ H7 ⟨x4, x5, g, cs, ll, rest, ls, lls, ts, rfl, h7⟩
      have hn : n.toNat ≤ 8 := by omega
      exact ⟨_, rfl, k H7 d cols cs h7.bt h7.pool ⟨sl, cl, l, g, rest, ls, ts, h7.hd, h7.hsl, h7.hl, h7.it, h7.hcl, h7.ct⟩ ⟨co, hne, h7.ch, h7.ok, by have := h7.le; omega⟩⟩
end
end Ed
/-! Editionrows: the law. -/
namespace Ed
open PySem PySem.Spec PyProof.Rows L2
/-! ### values as data -/
def vD : V → PyData
  | .int i => .int i
  | .str s => .str s
  | _ => .none
def FlatD (v : V) : Prop := v = .non ∨ (∃ i, v = .int i) ∨ ∃ s, v = .str s ∧ PyData.strOk s = true
theorem dp_flat {K : PySem.W.Frag} {H : Hp} : ∀ {vs : List V}, (∀ v ∈ vs, FlatD v) → DpAll K H vs (vs.map vD)
  | [], _ => .nil
  | v :: r, h => by
    refine .cons ?_ (dp_flat fun x hx => h x (List.mem_cons_of_mem _ hx))
    rcases h v (List.mem_cons_self ..) with rfl | ⟨i, rfl⟩ | ⟨s, rfl, _⟩
    · exact .non
    · exact .int i
    · exact .str s
theorem lay_flat : ∀ {vs : List V}, (∀ v ∈ vs, FlatD v) → PyData.canLayAll0 (vs.map vD) = true ∧ PyData.depthAll (vs.map vD) = 0
  | [], _ => ⟨by simp [PyData.canLayAll0], by simp [PyData.depthAll]⟩
  | v :: r, h => by
    obtain ⟨h1, h2⟩ := lay_flat (vs := r) fun x hx => h x (List.mem_cons_of_mem _ hx)
    have hv : PyData.canLay0 (vD v) = true ∧ PyData.depth (vD v) = 0 := by
      rcases h v (List.mem_cons_self ..) with rfl | ⟨i, rfl⟩ | ⟨s, rfl, hs⟩
      · exact ⟨by simp [vD, PyData.canLay0], by simp [vD, PyData.depth]⟩
      · exact ⟨by simp [vD, PyData.canLay0], by simp [vD, PyData.depth]⟩
      · exact ⟨by simp [vD, PyData.canLay0, hs], by simp [vD, PyData.depth]⟩
    refine ⟨?_, ?_⟩
    · rw [List.map_cons, PyData.canLayAll0, hv.1, h1]
      rfl
    · rw [List.map_cons, PyData.depthAll, hv.2, h2]
      rfl
theorem tup_shaped {vs : List V} (h : ∀ v ∈ vs, FlatD v) : SeqAt.shaped (.tuple (vs.map vD)) = true ∧ SeqAt.shaped (.list (vs.map vD)) = true := by
  obtain ⟨h1, h2⟩ := lay_flat h
  refine ⟨?_, ?_⟩
  · unfold SeqAt.shaped
    rw [PyData.canLay0, PyData.depth, h1, h2]
    rfl
  · unfold SeqAt.shaped
    rw [PyData.canLay0, PyData.depth, h1, h2]
    rfl
theorem name_str {n : Str} (h : NameOk n) : PyData.strOk n = true := by
  unfold PyData.strOk
  rw [← Array.all_toList]
  exact List.all_eq_true.mpr fun c hc => decide_eq_true (by have := lets c (h.let_ c hc); omega)
theorem vals_flat {m : Int} {c : Chg} (h : ChgOk m c) : ∀ v ∈ c.vals, FlatD v := by
  have hd : ∀ d : Option Int, FlatD (vO d) := fun d => by
    cases d with
    | none => exact .inl rfl
    | some i => exact .inr (.inl ⟨i, rfl⟩)
  have hi : ∀ i : Int, FlatD (.int i) := fun i => .inr (.inl ⟨i, rfl⟩)
  have hn : ∀ {n : Str}, Nm n → FlatD (.str n) := fun h => .inr (.inr ⟨_, rfl, name_str h.ok⟩)
  have hs : ∀ s : Str, PyData.strOk s = true → FlatD (.str s) := fun s h => .inr (.inr ⟨s, rfl, h⟩)
  intro v hv
  cases c <;> (simp only [Chg.vals, List.mem_cons, List.not_mem_nil, or_false] at hv)
  · obtain ⟨h1, h2, h3⟩ := h
    rcases hv with rfl | rfl | rfl | rfl
    · exact hs _ (by decide +kernel)
    · exact hn h1
    · exact hi _
    · exact hd _
  · rcases hv with rfl | rfl
    · exact hs _ (by decide +kernel)
    · exact hn h
  · obtain ⟨h1, h2⟩ := h
    rcases hv with rfl | rfl | rfl
    · exact hs _ (by decide +kernel)
    · exact hn h1
    · exact hn h2
  · obtain ⟨h1, h2⟩ := h
    rcases hv with rfl | rfl | rfl
    · exact hs _ (by decide +kernel)
    · exact hn h1
    · exact hd _
  · obtain ⟨h1, h2, h3⟩ := h
    rcases hv with rfl | rfl | rfl | rfl
    · exact hs _ (by decide +kernel)
    · exact hn h1
    · exact hi _
    · rcases h3 with rfl | rfl | rfl <;> exact hs _ (by decide +kernel)
  · obtain ⟨h1, h2⟩ := h
    rcases hv with rfl | rfl | rfl
    · exact hs _ (by decide +kernel)
    · exact hn h1
    · exact hi _
theorem eqv_tup {vs : List V} (h : ∀ v ∈ vs, FlatD v) : (!PyData.eqv (.tuple (vs.map vD)) (.tuple (vs.map vD))) = false := by rw [SeqAt.eqv_refl _ (SeqAt.canLay_of_shaped (tup_shaped h).1)]; rfl
theorem eqv_lst {vs : List V} (h : ∀ v ∈ vs, FlatD v) : (!PyData.eqv (.list (vs.map vD)) (.list (vs.map vD))) = false := by rw [SeqAt.eqv_refl _ (SeqAt.canLay_of_shaped (tup_shaped h).2)]; rfl
theorem told_nil : toldText [] = ("" : Str) := by decide +kernel
theorem tok_nil : ToldOk [] := ⟨(fun p h => by cases h), List.nodup_nil, by decide⟩
theorem str_ne (x : Str) : (!decide (V.str x = V.str x)) = false := by rw [decide_eq_true rfl]; rfl
def keysV (t : List (Str × Option Int)) : List V := (tkv t).map fun kv => kV kv.1
theorem keys_flat {t : List (Str × Option Int)} (h : ToldOk t) : ∀ v ∈ keysV t, FlatD v := fun v hv => by
  obtain ⟨kv, hkv, rfl⟩ := List.mem_map.mp hv
  obtain ⟨p, hp, rfl⟩ := List.mem_map.mp hkv
  exact .inr (.inr ⟨p.1, rfl, name_str (h.each p hp).1⟩)
theorem told_pts {t : List (Str × Option Int)} (h : ToldOk t) : ∀ p ∈ tkv t, valV (tkv t) p.1 = some p.2 ∧ flatB p.2 = true := fun p hp => by
  obtain ⟨q, hq, rfl⟩ := List.mem_map.mp hp
  refine ⟨tkv_get h.nd hq, ?_⟩
  cases q.2 <;> rfl
def nms : List Str := ["a", "zz", "abcdefgh", "none", "b"]
theorem nms_nd : nms.Nodup := by decide +kernel
theorem nms_ok : ∀ n ∈ nms, NameOk n := by
  intro n hn
  have e : ∀ s ∈ nms, (decide (1 ≤ s.length) && (decide (s.length ≤ 8) && (TL.tl s).all fun c => decide (c ∈ TL.tl ("abcdefghijklmnopqrstuvwxyz" : Str)))) = true := by
    have a : nms.all (fun s => decide (1 ≤ s.length) && (decide (s.length ≤ 8) && (TL.tl s).all fun c => decide (c ∈ TL.tl ("abcdefghijklmnopqrstuvwxyz" : Str)))) = true := by decide +kernel
    exact List.all_eq_true.mp a
  have h := e n hn
  simp only [Bool.and_eq_true, decide_eq_true_eq, List.all_eq_true] at h
  exact ⟨⟨h.1, h.2.1⟩, h.2.2⟩
theorem Same.of_but {H H1 H2 : Hp} {pl : Addr} (s : Same H H1) (n : H pl = none) (b : But pl H1 H2) : Same H H2 := fun a o e => b a o (ne_of_none e n) (s a o e)
section
variable {P : Program} {w : World} {K : PySem.W.Frag} {mg : Str → Option Value} {base : Heap} {C CH : Addr}
def spLaw (K : PySem.W.Frag) : Sp := fun vs H Q _ => ∃ (a : Addr) (ns : List Int), vs = [.ref a] ∧ SqL K H a (ns.map V.int) ∧ ∀ H', Q (.bl true) H'
theorem sc_law : FnScope ["_law_script", "_law_k", "_law_pool_here", "_law_h", "_law_history_here", "_law_text", "_law_turn", "_law_change_here", "_law_told", "_law_name"] ["_law_script"] (defScope s_law) := ⟨rfl, rfl, rfl, by decide +kernel, rfl, by decide +kernel, by decide +kernel⟩
theorem ok_law (T : Txt K mg w C CH) {f : Addr} {fd : FuncData} (F : FunD K "law" "law" (defArgs s_law) (defBody s_law) (defScope s_law) [] [] f fd) : FnOk P w K mg base CX0 13 f fd ["_law_script"] (spLaw K) := by
  obtain ⟨fe, fde, cne, FE⟩ := T.m_History_eq
  have GE := ok_History_eq (P := P) (base := base) T FE
  have BE : Binds K fde ["self", "other"] [] := FE.bindsN fun _ _ _ _ _ _ us hl => match us, hl with | [_, _], _ => rfl
  refine fnd_of F sc_law (fun vs H Q E h => ?_) (fun cdv A outer s H vs Q E hr h => ?_)
  · obtain ⟨_, _, rfl, _⟩ := h
    rfl
  · obtain ⟨a, ns, rfl, ha, k⟩ := h
    have hu := hu_of hr
    refine ⟨_, pss_cons (ps_for PassesOwn.never rfl (pi_range1 rfl T.b_range (pa_cons (pe_callB (call_max2 (by rfl)) rfl T.b_max boot_max (pa_cons pe_int (pa_cons (pe_callB (call_min2 (by rfl)) rfl T.b_min boot_min (pa_cons (pe_callB call_len_seq rfl T.b_len PySem.boot_len (pa_cons (pv 0) pa_nil)) (pa_cons pe_int pa_nil))) pa_nil))) pa_nil)) (pg_name (i := 1) sc_law.nd rfl (Or.inl rfl))
        (pss_cons (ps_set (i := 2) sc_law.nd rfl (Or.inl rfl) (C8.pe_c (ok_law_pool T) hr (by decide) rfl (pa_cons (pv 0) (pa_cons (pv 1) pa_nil))))
        (pss_cons (ps_set (i := 3) sc_law.nd rfl (Or.inl rfl) (C8.pe_c (ok_law_history T) hr (by decide) rfl (pa_cons (pv 2) (pa_cons pe_int (pa_cons pe_int pa_nil)))))
        (pss_cons (ps_par (i := 4) (j := 5) rfl sc_law.nd rfl rfl (by decide) rfl rfl (pa_cons (C8.pe_c (ok_law_made T) hr (by decide) rfl (pa_cons (pv 3) pa_nil)) (pa_cons (C8.pe_c (ok_law_ht T) hr (by decide) rfl (pa_cons (pv 3) pa_nil)) pa_nil)) (by rfl))
        (pss_cons (ps_if (PW.pt (pw_or (pt_cmpR op_ne (C8.pe_c (ok_write_history T) hr (by decide) rfl (pa_cons (pv 4) pa_nil)) (pv 5) (nomark _))
            (pw_or (pt_cmpR (op_neIns (E := E0) GE cne BE pass0 (hr.mono (by decide))) (C8.pe_c (ok_read_history T) hr (by decide) rfl (pa_cons (pv 5) pa_nil)) (pv 4) (nomark _))
            (pw_or1 (pt_cmpR op_ne (C8.pe_c (ok_write_history T) hr (by decide) rfl (pa_cons (C8.pe_c (ok_read_history T) hr (by decide) rfl (pa_cons (pv 5) pa_nil)) pa_nil)) (pv 5) (nomark _)))))) (pss_one (ps_ret pe_bl)) pss_nil)
        (pss_cons (ps_for PassesOwn.never rfl (pi_range1 rfl T.b_range (pa_cons pe_int pa_nil)) (pg_name (i := 6) sc_law.nd rfl (Or.inl rfl))
          (pss_cons (ps_set (i := 7) sc_law.nd rfl (Or.inl rfl) (C8.pe_c (ok_law_change T) hr (by decide) rfl (pa_cons (pv 2) (pa_cons (C8.pe_c (ok_law_pick T) hr (by decide) rfl (pa_cons (pv 2) (pa_cons (pe_lst (pa_cons pe_int (pa_cons pe_int pa_nil))) pa_nil))) pa_nil))))
          (pss_one (ps_if (PW.pt (pw_or (pt_cmpR op_ne (C8.pe_c (ok_write_change T) hr (by decide) rfl (pa_cons (pv 7) pa_nil)) (C8.pe_c (ok_law_ct T) hr (by decide) rfl (pa_cons (pv 7) pa_nil)) (nomark _))
              (pw_or1 (pt_cmpR (op_neD hr.units) (C8.pe_c (ok_read_change T) hr (by decide) rfl (pa_cons (C8.pe_c (ok_law_ct T) hr (by decide) rfl (pa_cons (pv 7) pa_nil)) pa_nil)) (pv 7) (nomark _))))) (pss_one (ps_ret pe_bl)) pss_nil))))
        (pss_cons (ps_set (i := 8) sc_law.nd rfl (Or.inl rfl) pe_dnewK)
        (pss_cons (ps_for PassesOwn.never rfl (pi_list (pe_lst (pa_cons pe_str (pa_cons pe_str (pa_cons pe_str (pa_cons pe_str (pa_cons pe_str pa_nil))))))) (pg_name (i := 9) sc_law.nd rfl (Or.inl rfl))
          (pss_one (ps_if (pt_cmpR op_eq (C8.pe_c (ok_law_draw T) hr (by decide) rfl (pa_cons (pv 2) (pa_cons pe_int pa_nil))) pe_int (nomark _))
            (pss_one (ps_dput hu (pv 8) (pv 9) (C8.pe_c (ok_law_value T) hr (by decide) rfl (pa_cons (pv 2) (pa_cons pe_int pa_nil))) rfl)) pss_nil)))
        (pss_cons (ps_if (PW.pt (pw_or (pt_cmpR op_ne (C8.pe_c (ok_write_told T) hr (by decide) rfl (pa_cons (pv 8) pa_nil)) (C8.pe_c (ok_law_tt T) hr (by decide) rfl (pa_cons (pv 8) pa_nil)) (nomark _))
            (pw_or (pt_cmpR (op_ne_dictA hr.units0) (C8.pe_c (ok_read_told T) hr (by decide) rfl (pa_cons (C8.pe_c (ok_law_tt T) hr (by decide) rfl (pa_cons (pv 8) pa_nil)) pa_nil)) (pv 8) (nomark _))
            (pw_or1 (pt_cmpR (op_neD hr.units) (pe_callTy (call_list_dK (by rfl)) rfl T.b_list boot_list (pa_cons (C8.pe_c (ok_read_told T) hr (by decide) rfl (pa_cons (C8.pe_c (ok_law_tt T) hr (by decide) rfl (pa_cons (pv 8) pa_nil)) pa_nil)) pa_nil)) (pe_callTy (call_list_dK (by rfl)) rfl T.b_list boot_list (pa_cons (pv 8) pa_nil)) (nomark _)))))) (pss_one (ps_ret pe_bl)) pss_nil)
        (pss_one (ps_if (PW.pt (pw_or (pt_cmpR op_ne (C8.pe_c (ok_write_told T) hr (by decide) rfl (pa_cons pe_dnewK pa_nil)) pe_str (nomark _))
            (pw_or1 (pt_cmpR (op_ne_dictA hr.units0) (C8.pe_c (ok_read_told T) hr (by decide) rfl (pa_cons pe_str pa_nil)) pe_dnewK (nomark _))))) (pss_one (ps_ret pe_bl)) pss_nil)))))))))))
      (pss_one (ps_ret pe_bl)), ?_⟩
    refine ⟨_, rfl, a, _, rfl, .inl ha, _, _, rfl, _, _, rfl, _, rfl, ?_⟩
    generalize hj : (if (if (2 : Int) < (((ns.map V.int).length : Nat) : Int) then (2 : Int) else (((ns.map V.int).length : Nat) : Int)) > 1 then (if (2 : Int) < (((ns.map V.int).length : Nat) : Int) then (2 : Int) else (((ns.map V.int).length : Nat) : Int)) else (1 : Int)) = j
    have hj2 : j ≤ 2 ∧ 0 ≤ j := by
      rw [← hj]
      split <;> split <;> omega
    refine ⟨by omega, by omega, ?_⟩
    refine for_it (walk_range (lo := 0) (n := j.toNat)) (fun i σ H' => ∃ x1 x2 x3 x4 x5 x6 x7 x8 x9 : Option V, σ = [some (.ref a), x1, x2, x3, x4, x5, x6, x7, x8, x9] ∧ Same H H') ⟨_, _, _, _, _, _, _, _, _, rfl, Same.refl _⟩ (fun _ _ _ _ _ => trivial) ?_ ?_
    · rintro i x σ H1 H2 hi ⟨x1, x2, x3, x4, x5, x6, x7, x8, x9, rfl, s1⟩ ⟨rfl, rfl⟩
      refine ⟨_, rfl, _, rfl, a, ns, i, (by show [V.ref a, .int (0 + (i : Nat))] = _; rw [Int.zero_add]), s1.seq ha, by omega, fun H2 pl s2 hpl hp2 => ?_⟩
      have hpH : H pl = none := s1.free hpl
      have t2 := s1.trans s2
      refine ⟨_, rfl, pl, rfl, hp2, fun H3 d cols cs b3 hp3 hL ho => ?_⟩
      refine ⟨_, rfl, d, cols, cs, rfl, hL, ho, fun H4 hs s4 hA => ?_⟩
      have hL4 := hL.same s4
      have hp4 := hp3.same s4
      refine ⟨_, rfl, d, cols, cs, rfl, hL4, ho, fun H5 s5 => ⟨_, _, rfl, ?_⟩⟩
      have hA5 := hA.same s5
      have hp5 := hp4.same s5
      have t5 : Same H H5 := Same.of_but t2 hpH (b3.trans ((s4.trans s5).but pl))
      -- the texts of the history
      refine ⟨_, rfl, hs, cols, cs, rfl, hA5, ho, fun H6 s6 => ⟨_, rfl, rfl, _, rfl, ifF (str_ne _) ?_⟩⟩
      have hA6 := hA5.same s6
      refine ⟨_, rfl, cols, cs, rfl, ho, fun H7 hs2 s7 hB => ?_⟩
      have hA7 := hA6.same s7
      obtain ⟨dx, sl, rest, g, kt, l, ls, ts, q1, _⟩ := hB.ex
      obtain ⟨dy, sl', rest', g', kt', l', ls', ts', q2, _⟩ := hA7.ex
      refine ⟨_, rfl, ⟨hs2, hs, dx, dy, _, _, rfl, rfl, q1, q2, cols, cs, hB, hA7⟩, fun H8 s8 => ⟨_, rfl, ifF rfl ?_⟩⟩
      refine ⟨_, rfl, cols, cs, rfl, ho, fun H9 hs3 s9 hC => ?_⟩
      refine ⟨hs3, cols, cs, rfl, hC, ho, fun H10 s10 => ⟨_, rfl, rfl, _, rfl, ifF (str_ne _) ?_⟩⟩
      have s510 : Same H5 H10 := s6.trans (s7.trans (Same.trans s8 (s9.trans s10)))
      have hp10 := hp5.same s510
      have t10 := t5.trans s510
      -- changes
      refine ⟨12, rfl, by decide, by decide, ?_⟩
      refine for_it (walk_range (lo := 0) (n := (12 : Int).toNat)) (fun i2 σ H' => ∃ x6 x7 x8 x9 : Option V, σ = [some (.ref a), some (.int (0 + (i : Nat))), some (.ref pl), some (.ref d), some (.ref hs), some (.str (histText cols cs)), x6, x7, x8, x9] ∧ But pl H10 H' ∧ PoolAt pl H')
        ⟨_, _, _, _, rfl, But.refl _ _, hp10⟩ (fun _ _ _ _ _ => trivial) ?_ ?_
      · rintro i2 x σ H11 H12 hi2 ⟨x6, x7, x8, x9, rfl, b11, hp11⟩ ⟨rfl, rfl⟩
        refine ⟨_, rfl, _, rfl, (by show 2 ≤ sizeLine; decide), fun p hpn => ?_⟩
        have s12 := Same.new (o := .lst [V.int 3, .int 99]) hpn
        refine ⟨pl, p, _, rfl, hp11.same s12, hp11.free hpn, upd_same, (fun e => by cases e), (by show 2 ≤ 1000; decide), fun H13 v hv b13 hp13 => ?_⟩
        obtain ⟨m, rfl, hm1, hm2⟩ : ∃ m : Int, v = .int m ∧ 1 ≤ m ∧ m ≤ 99 := by
          simp only [List.mem_cons, List.not_mem_nil, or_false] at hv
          rcases hv with rfl | rfl
          · exact ⟨3, rfl, by decide, by decide⟩
          · exact ⟨99, rfl, by decide, by decide⟩
        refine ⟨pl, m, rfl, hp13, hm1, hm2, fun H14 t c hok b14 hp14 ht14 => ?_⟩
        have b1114 := (s12.but pl).trans (b13.trans b14)
        refine ⟨_, rfl, t, c, m, rfl, ht14, hok, hm2, fun H15 s15 => ⟨_, rfl, t, c, m, rfl, s15 _ _ ht14, hok, hm2, fun H16 s16 => ⟨rfl, _, rfl, ifF (str_ne _) ?_⟩⟩⟩
        have ht16 := s16 _ _ (s15 _ _ ht14)
        refine ⟨_, rfl, t, c, m, rfl, ht16, hok, hm2, fun H17 s17 => ?_⟩
        refine ⟨c, m, rfl, hok, hm2, fun H18 t2' s18 ht18 => ?_⟩
        have ht18' := s18 _ _ (s17 _ _ ht16)
        have hf := vals_flat hok
        refine ⟨_, rfl, _, _, .tup (SqT.of ht18) (dp_flat hf), .tup (SqT.of ht18') (dp_flat hf), (tup_shaped hf).1, (tup_shaped hf).1, _, rfl, ifF (eqv_tup hf) ?_⟩
        have s1418 := s15.trans (s16.trans (s17.trans s18))
        exact ⟨_, _, _, _, rfl, b11.trans (b1114.trans (s1418.but pl)), hp14.same s1418⟩
      rintro σ H11 ⟨x6, x7, x8, x9, rfl, b11, hp11⟩
      have t11 : Same H H11 := Same.of_but t10 hpH b11
      -- what is told
      intro td htd
      have s12 : Same H11 (upd H11 td (.dK [])) := Same.new htd
      have hp12 := hp11.same s12
      have htd12 := upd_same (H := H11) (a := td) (o := .dK [])
      have hptd : pl ≠ td := hp11.free htd
      generalize upd H11 td (.dK []) = H12 at s12 hp12 htd12
      refine ⟨(by show 5 ≤ sizeLine; decide), fun q hq => ?_⟩
      have s13 : Same H12 (upd H12 q (.lst [V.str "a", .str "zz", .str "abcdefgh", .str "none", .str "b"])) := Same.new hq
      have hp13 := hp12.same s13
      have htd13 := s13 _ _ htd12
      have hq13 : (upd H12 q (.lst [V.str "a", .str "zz", .str "abcdefgh", .str "none", .str "b"])) q = some (.lst (nms.map V.str)) := upd_same
      have hpq : pl ≠ q := hp12.free hq
      have htq : td ≠ q := ne_of_none htd12 hq
      generalize upd H12 q (.lst [V.str "a", .str "zz", .str "abcdefgh", .str "none", .str "b"]) = H13 at s13 hp13 htd13 hq13
      have b1113 := (s12.trans s13).but pl
      refine ⟨q, rfl, ⟨_, SqL.of hq13⟩, ?_⟩
      refine for_it (walk_list (xs := nms.map V.str)) (fun i2 σ H' => ∃ (x9 : Option V) (t : List (Str × Option Int)), σ = [some (.ref a), some (.int (0 + (i : Nat))), some (.ref pl), some (.ref d), some (.ref hs), some (.str (histText cols cs)), x6, x7, some (.ref td), x9] ∧
          But pl H11 H' ∧ PoolAt pl H' ∧ H' q = some (.lst (nms.map V.str)) ∧ H' td = some (.dK (tkv t)) ∧ (∀ p ∈ t, p.1 ∈ nms.take i2 ∧ ValO 99 p.2) ∧ (t.map (·.1)).Nodup ∧ t.length ≤ i2)
        ⟨_, [], rfl, b1113, hp13, hq13, htd13, (fun p h => by cases h), List.nodup_nil, Nat.le_refl _⟩ (fun _ _ _ _ ⟨_, _, _, _, _, h, _⟩ => SqL.of h) ?_ ?_
      · rintro i2 x σ H14 H15 hi2 ⟨x9, t, rfl, b14, hp14, hq14, htd14, he, hnd, hle⟩ ⟨rfl, hx⟩
        rw [List.getElem?_map] at hx
        obtain ⟨nm, hnm1, rfl⟩ : ∃ nm, nms[i2]? = some nm ∧ x = .str nm := by
          cases e : nms[i2]? with
          | none => rw [e] at hx; cases hx
          | some nm => rw [e] at hx; exact ⟨nm, rfl, (Option.some.inj hx).symm⟩
        have htake : ∀ p : Str × Option Int, p ∈ t → p.1 ∈ nms.take (i2 + 1) ∧ ValO 99 p.2 := fun p hp => by
          rw [List.take_add_one]
          exact ⟨List.mem_append.mpr (.inl (he p hp).1), (he p hp).2⟩
        refine ⟨_, rfl, pl, 2, rfl, hp14, by decide, by decide, fun H16 n n0 n1 b16 hp16 => ⟨rfl, _, rfl, ?_⟩⟩
        have htd16 := b16 td _ hptd.symm htd14
        have hq16 := b16 q _ hpq.symm hq14
        refine ite2 (fun _ => ?_) (fun _ => ?_)
        · refine ⟨_, rfl, pl, 99, rfl, hp16, by decide, by decide, fun H17 dd hdd b17 hp17 => ?_⟩
          have htd17 := b17 td _ hptd.symm htd16
          have hq17 := b17 q _ hpq.symm hq16
          have hno : valV (tkv t) (Sum.inr nm : Key) = none := valV_no fun mm => by
            obtain ⟨z, hz, ez⟩ := List.mem_map.mp mm
            obtain ⟨p2, hp2, rfl⟩ := List.mem_map.mp hz
            have en : p2.1 = nm := Sum.inr.inj ez
            obtain ⟨j2, hj2', ej⟩ := List.mem_iff_getElem.mp (he p2 hp2).1
            have hj3 : j2 < i2 := by rw [List.length_take] at hj2'; omega
            have hx1 : nms[j2]? = some nm := by
              rw [← en, ← ej, List.getElem_take]
              exact List.getElem?_eq_getElem _
            have := nd_ix nms_nd hx1 hnm1
            omega
          have hni : nm ∉ t.map (·.1) := fun mm => by
            obtain ⟨p2, hp2, en⟩ := List.mem_map.mp mm
            obtain ⟨j2, hj2', ej⟩ := List.mem_iff_getElem.mp (he p2 hp2).1
            have hj3 : j2 < i2 := by rw [List.length_take] at hj2'; omega
            have hx1 : nms[j2]? = some nm := by
              rw [← en, ← ej, List.getElem_take]
              exact List.getElem?_eq_getElem _
            have := nd_ix nms_nd hx1 hnm1
            omega
          have hi5 : i2 < 5 := hi2
          refine ⟨_, rfl, _, rfl, td, _, rfl, DPut.k (k := Sum.inr nm) htd17 (small_lt (by rw [tkv, List.length_map]; omega)), ?_⟩
          refine ⟨_, t ++ [(nm, dd)], rfl, (b14.trans (b16.trans b17)).upd htd, hp17.other hptd, by rw [upd_ne htq.symm]; exact hq17, ?_, fun p hp => ?_, ?_, by rw [List.length_append, List.length_singleton]; omega⟩
          · rw [upd_same, putK_new _ hno]
            unfold tkv
            rw [List.map_append]
            rfl
          · rcases List.mem_append.mp hp with hp | hp
            · exact htake p hp
            · rw [List.mem_singleton.mp hp, List.take_add_one, hnm1]
              exact ⟨List.mem_append.mpr (.inr (List.mem_singleton.mpr rfl)), hdd⟩
          · rw [List.map_append]
            exact nodup_snoc hnd hni
        · exact ⟨_, t, rfl, b14.trans b16, hp16, hq16, htd16, htake, hnd, Nat.le_succ_of_le hle⟩
      rintro σ H14 ⟨x9, t, rfl, b14, hp14, hq14, htd14, he, hnd, hle⟩
      have ho2 : ToldOk t := ⟨fun p hp => ⟨nms_ok _ (List.mem_of_mem_take (he p hp).1), (he p hp).2⟩, hnd, hle⟩
      have t14 : Same H H14 := Same.of_but t11 hpH b14
      refine ⟨_, rfl, td, t, rfl, htd14, ho2, fun H15 s15 => ⟨_, rfl, td, t, rfl, s15 _ _ htd14, ho2, fun H16 s16 => ⟨rfl, _, rfl, ifF (str_ne _) ?_⟩⟩⟩
      have htd16 := s16 _ _ (s15 _ _ htd14)
      refine ⟨_, rfl, td, t, rfl, htd16, ho2, fun H17 s17 => ⟨t, rfl, ho2, fun H18 d4 s18 hd4 => ?_⟩⟩
      have htd18 := s18 _ _ (s17 _ _ htd16)
      refine ⟨_, rfl, d4, td, _, _, rfl, rfl, hd4, htd18, rfl, told_pts ho2, _, rfl, ifF rfl ?_⟩
      refine ⟨_, rfl, td, t, rfl, htd18, ho2, fun H19 s19 => ⟨t, rfl, ho2, fun H20 d5 s20 hd5 => ?_⟩⟩
      have htd20 := s20 _ _ (s19 _ _ htd18)
      refine ⟨d5, _, rfl, hd5, fun q5 hq5 => ?_⟩
      have s21 := Same.new (o := .lst (keysV t)) hq5
      refine ⟨_, rfl, td, _, rfl, s21 _ _ htd20, fun q6 hq6 => ?_⟩
      have s22 := Same.new (o := .lst (keysV t)) hq6
      have hkf := keys_flat ho2
      refine ⟨.list ((keysV t).map vD), .list ((keysV t).map vD), .lst (SqL.of (s22 _ _ upd_same)) (dp_flat hkf), .lst (SqL.of upd_same) (dp_flat hkf), (tup_shaped hkf).2, (tup_shaped hkf).2, _, rfl, ifF (eqv_lst hkf) ?_⟩
      have s1422 := s15.trans (s16.trans (s17.trans (s18.trans (s19.trans (s20.trans (s21.trans s22))))))
      have t22 := t14.trans s1422
      generalize upd (upd H20 q5 (.lst (keysV t))) q6 (.lst (keysV t)) = H22 at t22
      intro p7 hp7
      have s23 := Same.new (o := .dK []) hp7
      refine ⟨p7, [], rfl, upd_same, tok_nil, fun H24 s24 => ⟨rfl, _, rfl, ifF (by rw [told_nil]; exact str_ne _) ?_⟩⟩
      refine ⟨[], by rw [told_nil]; rfl, tok_nil, fun H25 d6 s25 hd6 => fun p8 hp8 => ?_⟩
      have s26 := Same.new (o := .dK []) hp8
      refine ⟨d6, p8, [], [], rfl, rfl, s26 _ _ hd6, upd_same, rfl, (fun p h => by cases h), _, rfl, ifF rfl ?_⟩
      exact ⟨_, _, _, _, _, _, _, _, _, rfl, t22.trans (s23.trans (s24.trans (s25.trans s26)))⟩
    · rintro σ H1 ⟨x1, x2, x3, x4, x5, x6, x7, x8, x9, rfl, s1⟩
      exact k H1
end
end Ed
set_option maxHeartbeats 0
/-! Editionrows: the head's run, what is seen at its end. (printed by gen_head.py) -/
namespace Ed
open PySem PySem.Spec PyProof.Rows L2
open He (ba eqO eqO_ok ga ma)
/-! ### own Bools -/
def insB (K : PySem.W.Frag) (C : Addr) : Bool := eqO (PySem.W.findIn K (.ref C) "__class__") (some (some (.builtin "object.__class__"))) && (eqO (PySem.W.specialIn K (.builtin "object.__class__") "__get__") (some (some (.builtin "getset_descriptor.__get__"))) &&
  (decide (PySem.W.takesIn K (.builtin "object.__class__") = some true) && (decide (PySem.W.mroIn K C (.type "object") = some true) && decide (PySem.W.kitOne K (.ref C) (.ref C) = some true))))
theorem insB_ok {K : PySem.W.Frag} {C : Addr} (c : Cls K C) (h : insB K C = true) : C8.InsC K C := by
  obtain ⟨h1, h⟩ := ba h
  obtain ⟨h2, h⟩ := ba h
  obtain ⟨h3, h⟩ := ba h
  obtain ⟨h4, h5⟩ := ba h
  exact ⟨c, eqO_ok h1, eqO_ok h2, of_decide_eq_true h3, of_decide_eq_true h4, of_decide_eq_true h5⟩
def isFunB (K : PySem.W.Frag) (f : Addr) : Bool := match K.lookup f with
  | some ⟨.type c, _, _, _⟩ => decide (c = "function")
  | _ => false
theorem isFunB_ok {K : PySem.W.Frag} {f : Addr} (h : isFunB K f = true) : ∃ of : Obj, K.lookup f = some of ∧ of.cls = .type "function" := by
  unfold isFunB at h
  split at h
  · rename_i c d dt sl q
    exact ⟨_, q, congrArg Value.type (of_decide_eq_true h)⟩
  · cases h
def neB (K : PySem.W.Frag) (C f : Addr) : Bool := match K.lookup C with
  | some ⟨.type c, _, .cls cd, sl⟩ => decide (c = "type") && (match cd.mro, sl.toList with
    | .ref C' :: bm, [_, _, _, _, some (.builtin _), _] => decide (C' = C) && (eqO (some (bm[0]?)) (some (some (.type "object"))) && (decide (bm.length = 1) && (!cd.hasDel && (PySem.W.nsOkIn K cd.ns && (eqO (PySem.W.nsIn K cd.ns "__eq__") (some (some (.ref f))) && (eqO (PySem.W.nsIn K cd.ns "__ne__") (some none) && isFunB K f))))))
    | _, _ => false)
  | _ => false
theorem neB_ok {K : PySem.W.Frag} {C f : Addr} (h : neB K C f = true) : NeC K C f := by
  unfold neB at h
  split at h
  · rename_i c dd cd sl q
    obtain ⟨h0, h⟩ := ba h
    have hc := of_decide_eq_true h0
    split at h
    · rename_i C' bm k0 k1 k2 k3 n k5 hm hs
      obtain ⟨h1, h⟩ := ba h
      obtain ⟨h2, h⟩ := ba h
      obtain ⟨h3, h⟩ := ba h
      obtain ⟨h4, h⟩ := ba h
      obtain ⟨h5, h⟩ := ba h
      obtain ⟨h6, h⟩ := ba h
      obtain ⟨h7, h8⟩ := ba h
      have e1 := of_decide_eq_true h1
      have e2 : bm[0]? = some (.type "object") := Option.some.inj (eqO_ok h2)
      have e3 := of_decide_eq_true h3
      obtain ⟨of, g1, g2⟩ := isFunB_ok h8
      have hbm : bm = [.type "object"] := by
        cases bm with
        | nil => cases e2
        | cons x r =>
          have hr : r = [] := List.eq_nil_of_length_eq_zero (by rw [List.length_cons] at e3; omega)
          rw [hr, Option.some.inj (show some x = some (.type "object") from e2)]
      have hsl : sl = #[k0, k1, k2, k3, some (.builtin n), k5] := by rw [← Array.toArray_toList (xs := sl), hs]
      obtain ⟨nm, bs, mro, ns, qn, hd, sn, sub, ab, col, del⟩ := cd
      have hm : mro = .ref C' :: bm := hm
      have h4 : (!del) = true := h4
      have hdel : del = false := by cases del; rfl; cases h4
      subst hm hdel hbm hsl hc e1
      exact ⟨nm, qn, ns, bs, hd, sn, sub, ab, col, dd, k0, k1, k2, k3, k5, n, of, q, h5, eqO_ok h6, eqO_ok h7, g1, g2⟩
    · cases h
  · cases h
/-! ### what is looked at -/
def fa0 : List He.Fa := [.free "isinstance",
  .free "int",
  .free "bool",
  .free "str",
  .free "len",
  .free "list",
  .free "tuple",
  .free "all",
  .free "enumerate",
  .free "zip",
  .free "max",
  .free "min",
  .free "range",
  .str "LETTERS" "abcdefghijklmnopqrstuvwxyz",
  .str "MISSING" "missing",
  .str "FIGURES" "0123456789",
  .str "NOTHING" "-",
  .int "MOST_LETTERS" 8,
  .int "MOST_GREATEST" 99,
  .int "MOST_COLUMNS" 6]
def fa1 : List He.Fa := [.int "MOST_CHANGES" 40,
  .glo "COLUMN_PARTS",
  .glo "WAYS",
  .glo "SIZES",
  .glo "Column",
  .glo "History",
  .cls "Column",
  .mkr "Column",
  .cls "History",
  .mkr "History",
  .noat "Column" "name",
  .noat "Column" "greatest",
  .noat "Column" "default",
  .noat "Column" "number",
  .noat "History" "sheets",
  .noat "History" "given",
  .noat "History" "kept_changes",
  .meth "Column" "__eq__",
  .meth "Column" "changed",
  .meth "History" "first_columns"]
def fa2 : List He.Fa := [.meth "History" "changes_told",
  .glo "is_integer",
  .glo "is_between",
  .glo "is_name",
  .glo "is_value",
  .glo "is_within",
  .glo "is_change",
  .glo "named",
  .glo "why_not_add",
  .glo "why_not",
  .glo "narrowed",
  .glo "changed_column",
  .glo "changed_columns",
  .glo "checked_columns",
  .glo "next_number",
  .glo "all_sheets",
  .glo "is_numeral",
  .glo "is_value_word",
  .glo "value_text",
  .glo "value_in"]
def fa3 : List He.Fa := [.glo "write_change",
  .glo "column_text",
  .glo "write_history",
  .glo "write_told",
  .glo "is_greatest_word",
  .glo "change_in",
  .glo "short_change",
  .glo "read_change",
  .glo "column_in",
  .glo "read_history",
  .glo "told_in",
  .glo "read_told",
  .glo "_law_pool",
  .glo "_law_draw",
  .glo "_law_pick",
  .glo "_law_value",
  .glo "_law_word",
  .glo "_law_cut",
  .glo "_law_col_then",
  .glo "_law_then"]
def fa4 : List He.Fa := [.glo "_law_change",
  .glo "_law_first",
  .glo "_law_history",
  .glo "_law_cols",
  .glo "_law_made",
  .glo "_law_vt",
  .glo "_law_ct",
  .glo "_law_ht",
  .glo "_law_tt",
  .glo "law"]
def fa : List He.Fa := fa0 ++ fa1 ++ fa2 ++ fa3 ++ fa4
def fn0 : List He.DefD := [⟨("is_integer", none), "is_integer", "is_integer", defArgs s_is_integer, defBody s_is_integer, defScope s_is_integer, [], []⟩,
  ⟨("is_between", none), "is_between", "is_between", defArgs s_is_between, defBody s_is_between, defScope s_is_between, [], []⟩,
  ⟨("is_name", none), "is_name", "is_name", defArgs s_is_name, defBody s_is_name, defScope s_is_name, [], []⟩,
  ⟨("is_value", none), "is_value", "is_value", defArgs s_is_value, defBody s_is_value, defScope s_is_value, [], []⟩,
  ⟨("is_within", none), "is_within", "is_within", defArgs s_is_within, defBody s_is_within, defScope s_is_within, [], []⟩,
  ⟨("is_change", none), "is_change", "is_change", defArgs s_is_change, defBody s_is_change, defScope s_is_change, [], []⟩,
  ⟨("named", none), "named", "named", defArgs s_named, defBody s_named, defScope s_named, [], []⟩,
  ⟨("why_not_add", none), "why_not_add", "why_not_add", defArgs s_why_not_add, defBody s_why_not_add, defScope s_why_not_add, [], []⟩,
  ⟨("why_not", none), "why_not", "why_not", defArgs s_why_not, defBody s_why_not, defScope s_why_not, [], []⟩,
  ⟨("narrowed", none), "narrowed", "narrowed", defArgs s_narrowed, defBody s_narrowed, defScope s_narrowed, [], []⟩,
  ⟨("changed_column", none), "changed_column", "changed_column", defArgs s_changed_column, defBody s_changed_column, defScope s_changed_column, [], []⟩,
  ⟨("changed_columns", none), "changed_columns", "changed_columns", defArgs s_changed_columns, defBody s_changed_columns, defScope s_changed_columns, [], []⟩,
  ⟨("checked_columns", none), "checked_columns", "checked_columns", defArgs s_checked_columns, defBody s_checked_columns, defScope s_checked_columns, [], []⟩,
  ⟨("next_number", none), "next_number", "next_number", defArgs s_next_number, defBody s_next_number, defScope s_next_number, [], []⟩]
def fn1 : List He.DefD := [⟨("all_sheets", none), "all_sheets", "all_sheets", defArgs s_all_sheets, defBody s_all_sheets, defScope s_all_sheets, [], []⟩,
  ⟨("is_numeral", none), "is_numeral", "is_numeral", defArgs s_is_numeral, defBody s_is_numeral, defScope s_is_numeral, [], []⟩,
  ⟨("is_value_word", none), "is_value_word", "is_value_word", defArgs s_is_value_word, defBody s_is_value_word, defScope s_is_value_word, [], []⟩,
  ⟨("value_text", none), "value_text", "value_text", defArgs s_value_text, defBody s_value_text, defScope s_value_text, [], []⟩,
  ⟨("value_in", none), "value_in", "value_in", defArgs s_value_in, defBody s_value_in, defScope s_value_in, [], []⟩,
  ⟨("write_change", none), "write_change", "write_change", defArgs s_write_change, defBody s_write_change, defScope s_write_change, [], []⟩,
  ⟨("column_text", none), "column_text", "column_text", defArgs s_column_text, defBody s_column_text, defScope s_column_text, [], []⟩,
  ⟨("write_history", none), "write_history", "write_history", defArgs s_write_history, defBody s_write_history, defScope s_write_history, [], []⟩,
  ⟨("write_told", none), "write_told", "write_told", defArgs s_write_told, defBody s_write_told, defScope s_write_told, [], []⟩,
  ⟨("is_greatest_word", none), "is_greatest_word", "is_greatest_word", defArgs s_is_greatest_word, defBody s_is_greatest_word, defScope s_is_greatest_word, [], []⟩,
  ⟨("change_in", none), "change_in", "change_in", defArgs s_change_in, defBody s_change_in, defScope s_change_in, [], []⟩,
  ⟨("short_change", none), "short_change", "short_change", defArgs s_short_change, defBody s_short_change, defScope s_short_change, [], []⟩,
  ⟨("read_change", none), "read_change", "read_change", defArgs s_read_change, defBody s_read_change, defScope s_read_change, [], []⟩,
  ⟨("column_in", none), "column_in", "column_in", defArgs s_column_in, defBody s_column_in, defScope s_column_in, [], []⟩]
def fn2 : List He.DefD := [⟨("read_history", none), "read_history", "read_history", defArgs s_read_history, defBody s_read_history, defScope s_read_history, [], []⟩,
  ⟨("told_in", none), "told_in", "told_in", defArgs s_told_in, defBody s_told_in, defScope s_told_in, [], []⟩,
  ⟨("read_told", none), "read_told", "read_told", defArgs s_read_told, defBody s_read_told, defScope s_read_told, [], []⟩,
  ⟨("_law_pool", none), "_law_pool", "_law_pool", defArgs s_law_pool, defBody s_law_pool, defScope s_law_pool, [], []⟩,
  ⟨("_law_draw", none), "_law_draw", "_law_draw", defArgs s_law_draw, defBody s_law_draw, defScope s_law_draw, [], []⟩,
  ⟨("_law_pick", none), "_law_pick", "_law_pick", defArgs s_law_pick, defBody s_law_pick, defScope s_law_pick, [], []⟩,
  ⟨("_law_value", none), "_law_value", "_law_value", defArgs s_law_value, defBody s_law_value, defScope s_law_value, [], []⟩,
  ⟨("_law_word", none), "_law_word", "_law_word", defArgs s_law_word, defBody s_law_word, defScope s_law_word, [], []⟩,
  ⟨("_law_cut", none), "_law_cut", "_law_cut", defArgs s_law_cut, defBody s_law_cut, defScope s_law_cut, [], []⟩,
  ⟨("_law_col_then", none), "_law_col_then", "_law_col_then", defArgs s_law_col_then, defBody s_law_col_then, defScope s_law_col_then, [], []⟩,
  ⟨("_law_then", none), "_law_then", "_law_then", defArgs s_law_then, defBody s_law_then, defScope s_law_then, [], []⟩,
  ⟨("_law_change", none), "_law_change", "_law_change", defArgs s_law_change, defBody s_law_change, defScope s_law_change, [], []⟩,
  ⟨("_law_first", none), "_law_first", "_law_first", defArgs s_law_first, defBody s_law_first, defScope s_law_first, [], []⟩,
  ⟨("_law_history", none), "_law_history", "_law_history", defArgs s_law_history, defBody s_law_history, defScope s_law_history, [], []⟩]
def fn3 : List He.DefD := [⟨("_law_cols", none), "_law_cols", "_law_cols", defArgs s_law_cols, defBody s_law_cols, defScope s_law_cols, [], []⟩,
  ⟨("_law_made", none), "_law_made", "_law_made", defArgs s_law_made, defBody s_law_made, defScope s_law_made, [], []⟩,
  ⟨("_law_vt", none), "_law_vt", "_law_vt", defArgs s_law_vt, defBody s_law_vt, defScope s_law_vt, [], []⟩,
  ⟨("_law_ct", none), "_law_ct", "_law_ct", defArgs s_law_ct, defBody s_law_ct, defScope s_law_ct, [], []⟩,
  ⟨("_law_ht", none), "_law_ht", "_law_ht", defArgs s_law_ht, defBody s_law_ht, defScope s_law_ht, [], []⟩,
  ⟨("_law_tt", none), "_law_tt", "_law_tt", defArgs s_law_tt, defBody s_law_tt, defScope s_law_tt, [], []⟩,
  ⟨("law", none), "law", "law", defArgs s_law, defBody s_law, defScope s_law, [], []⟩,
  ⟨("Column", some "__init__"), "__init__", "Column.__init__", defArgs s_Column_init, defBody s_Column_init, defScope s_Column_init, [.non], [("number", .int 0)]⟩,
  ⟨("Column", some "__eq__"), "__eq__", "Column.__eq__", defArgs s_Column_eq, defBody s_Column_eq, defScope s_Column_eq, [], []⟩,
  ⟨("Column", some "changed"), "changed", "Column.changed", defArgs s_Column_changed, defBody s_Column_changed, defScope s_Column_changed, [], []⟩,
  ⟨("History", some "__init__"), "__init__", "History.__init__", defArgs s_History_init, defBody s_History_init, defScope s_History_init, [.adr (He.dflAt ("History", some "__init__") 0)], []⟩,
  ⟨("History", some "__eq__"), "__eq__", "History.__eq__", defArgs s_History_eq, defBody s_History_eq, defScope s_History_eq, [], []⟩,
  ⟨("History", some "first_columns"), "first_columns", "History.first_columns", defArgs s_History_first_columns, defBody s_History_first_columns, defScope s_History_first_columns, [], []⟩,
  ⟨("History", some "changes_told"), "changes_told", "History.changes_told", defArgs s_History_changes_told, defBody s_History_changes_told, defScope s_History_changes_told, [], []⟩]
def fn : List He.DefD := fn0 ++ fn1 ++ fn2 ++ fn3
def ts : List He.Tab := [(fun K => ga K "SIZES", ["add", "drop", "rename", "default", "greatest", "fill"])]
def szs : List (Str × He.Dv) := [("add", .int 4), ("drop", .int 2), ("rename", .int 3), ("default", .int 3), ("greatest", .int 4), ("fill", .int 3)]
def exB (K : PySem.W.Frag) : Bool := He.tupB K "WAYS" [.str "cut", .str "none", .str "refuse"] && (He.tupB K "COLUMN_PARTS" [.str "name", .str "greatest", .str "default", .str "number"] && (He.valsB K (ga K "SIZES") szs &&
  (insB K (ga K "Column") && (insB K (ga K "History") && neB K (ga K "History") (ma K (ga K "History") "__eq__")))))
/-! ### own Hook: only the objects that the facts need -/
def entA (es : Array DictEntry) (x : Str) : Addr := match es.toList.find? (·.key.isStr x) with
  | some e => (match e.val with
    | .ref a => a
    | _ => 0)
  | none => 0
def gvA (g : Addr → Option Obj) (d : Addr) (x : Str) : Addr := match g d with
  | some ⟨_, _, .dict es _, _⟩ => entA es x
  | _ => 0
def fnAs (g : Addr → Option Obj) (f : Addr) : List Addr := f :: match g f with
  | some ⟨_, _, .func fd, _⟩ => He.refV fd.code ++ (He.refV fd.defaults ++ He.refV fd.kwdefaults)
  | _ => []
def clAs (g : Addr → Option Obj) (C : Addr) (ms : List Str) : List Addr := C :: match g C with
  | some ⟨_, _, .cls cd, _⟩ => cd.ns :: ms.flatMap fun m => fnAs g (gvA g cd.ns m)
  | _ => []
def dns0 : List Str := ["is_integer",
  "is_between",
  "is_name",
  "is_value",
  "is_within",
  "is_change",
  "named",
  "why_not_add",
  "why_not",
  "narrowed",
  "changed_column",
  "changed_columns",
  "checked_columns",
  "next_number",
  "all_sheets",
  "is_numeral",
  "is_value_word",
  "value_text",
  "value_in",
  "write_change"]
def dns1 : List Str := ["column_text",
  "write_history",
  "write_told",
  "is_greatest_word",
  "change_in",
  "short_change",
  "read_change",
  "column_in",
  "read_history",
  "told_in",
  "read_told",
  "_law_pool",
  "_law_draw",
  "_law_pick",
  "_law_value",
  "_law_word",
  "_law_cut",
  "_law_col_then",
  "_law_then",
  "_law_change"]
def dns2 : List Str := ["_law_first",
  "_law_history",
  "_law_cols",
  "_law_made",
  "_law_vt",
  "_law_ct",
  "_law_ht",
  "_law_tt",
  "law"]
def dns : List Str := dns0 ++ dns1 ++ dns2
def asY (g : Addr → Option Obj) : List Addr := mainGlobals :: gvA g mainGlobals "WAYS" :: gvA g mainGlobals "COLUMN_PARTS" :: gvA g mainGlobals "SIZES" ::
  (clAs g (gvA g mainGlobals "Column") ["__init__", "__eq__", "changed"] ++ (clAs g (gvA g mainGlobals "History") ["__init__", "__eq__", "first_columns", "changes_told"] ++ dns.flatMap fun x => fnAs g (gvA g mainGlobals x)))
structure SaysY (w : World) (K : PySem.W.Frag) : Prop where
  t : He.SaysT fa fn ts w K
  more : exB K = true
def obsY (g : Addr → Option Obj) : He.AlX := (He.obsT fa fn ts (He.frG g (asY g)), exB (He.frG g (asY g)))
theorem saysY_of {w : World} {h : Heap} (e : obsY h.get? = He.valX fn ts w) : SaysY w (He.frG h.get? (asY h.get?)) :=
  ⟨congrArg (fun z : He.AlX => z.1) e, congrArg (fun z : He.AlX => z.2) e⟩
def hk : PySem.W.Hook where
  α := He.AlX
  obs := fun s => obsY s.heap.get?
  val := fun w => He.valX fn ts w
  says := fun w h => ∃ K : PySem.W.Frag, K.In h ∧ SaysY w K
  of := fun _ _ e => ⟨_, He.frG_in, saysY_of e⟩
  keeps := fun _ _ _ ⟨K, hK, c⟩ k => ⟨K, PySem.W.Frag.In.keeps hK k, c⟩
theorem obsY_eq {g : Addr → Option Obj} {s : Shared} (h : ∀ a, g a = s.heap.get? a) : obsY g = hk.obs s := by
  have e : g = s.heap.get? := funext h
  rw [e] <;> rfl
abbrev R : PySem.W.OpenRow := PySem.W.OpenLaw.row PySem.Challenge.rw_editionrows_k73_whole_texts_there_and_ba
abbrev qv : Program := PySem.W.view R.prog [78]
def ob (s : PySem.W.SharedT) : He.AlX := obsY (HandSHeadRun.getT s)
theorem ob_eq (s : PySem.W.SharedT) : ob s = hk.obs s.abs := obsY_eq (HandSHeadRun.getT_eq s)
def names0 : List Str := ["_wall",
  "TableError",
  "BadColumn",
  "BadPart",
  "BadChange",
  "CannotBe",
  "BadEdition",
  "BadText",
  "UnknownName",
  "TooMany",
  "LETTERS",
  "MOST_LETTERS",
  "MOST_GREATEST",
  "MISSING",
  "is_integer",
  "is_between",
  "is_name",
  "is_value",
  "is_within",
  "COLUMN_PARTS"]
def names1 : List Str := ["Column",
  "WAYS",
  "MOST_COLUMNS",
  "SIZES",
  "is_change",
  "named",
  "why_not_add",
  "why_not",
  "narrowed",
  "changed_column",
  "changed_columns",
  "MOST_CHANGES",
  "checked_columns",
  "next_number",
  "all_sheets",
  "History",
  "FIGURES",
  "NOTHING",
  "is_numeral",
  "is_value_word"]
def names2 : List Str := ["value_text",
  "value_in",
  "write_change",
  "column_text",
  "write_history",
  "write_told",
  "is_greatest_word",
  "change_in",
  "short_change",
  "read_change",
  "column_in",
  "read_history",
  "told_in",
  "read_told",
  "_law_pool",
  "_law_draw",
  "_law_pick",
  "_law_value",
  "_law_word",
  "_law_cut"]
def names3 : List Str := ["_law_col_then",
  "_law_then",
  "_law_change",
  "_law_first",
  "_law_history",
  "_law_cols",
  "_law_made",
  "_law_vt",
  "_law_ct",
  "_law_ht",
  "_law_tt"]
def names : List Str := names0 ++ names1 ++ names2 ++ names3
theorem runF (w : World) : HandSHeadRun.RunEq R qv hk ob 8000 names (w.withFollow "special-get-raises" false) := by
  intro os
  kernel_rfl
theorem runT (w : World) : HandSHeadRun.RunEq R qv hk ob 8000 names (w.withFollow "special-get-raises" true) := by
  intro os
  kernel_rfl
theorem run (w : World) : HandSHeadRun.RunEq R qv hk ob 8000 names w :=
  PySem.W.byRow2 "special-get-raises" (P := fun w => HandSHeadRun.RunEq R qv hk ob 8000 names w) runF runT w
end Ed
/-! Editionrows: the head's facts as the walk takes them; the claim. (printed by gen_head.py) -/
namespace Ed
open PySem PySem.Spec PyProof.Rows L2
open He (ba eqO eqO_ok ga ma)
theorem def_at {K : PySem.W.Frag} {h : Heap} {mg : Str → Option Value} {w : World} (X : K.In h) (G : h.Ns mainGlobals mg) (c : SaysY w K) {x : Str} {st : Stmt} (i j : Nat)
    (hi : fn[i]? = some ⟨(x, none), x, x, defArgs st, defBody st, defScope st, [], []⟩) (hj : fa[j]? = some (.glo x)) : DefAt K mg x st := by
  obtain ⟨fd, F⟩ := c.t.d.def_ i hi
  exact ⟨_, fd, F, He.glo_ok X G (c.t.d.fact j hj)⟩
theorem txt_of {K : PySem.W.Frag} {h : Heap} {mg : Str → Option Value} {w : World} (X : K.In h) (G : h.Ns mainGlobals mg) (c : SaysY w K) : Txt K mg w (ga K "Column") (ga K "History") := by
  obtain ⟨e1, e⟩ := ba c.more
  obtain ⟨e2, e⟩ := ba e
  obtain ⟨e3, e⟩ := ba e
  obtain ⟨e4, e⟩ := ba e
  obtain ⟨e5, e6⟩ := ba e
  obtain ⟨es, n, hD⟩ := c.t.tab 0 (t := (fun K => ga K "SIZES", ["add", "drop", "rename", "default", "greatest", "fill"])) rfl
  have sz : ∀ q ∈ [(("add" : Str), (4 : Int)), (("drop" : Str), (2 : Int)), (("rename" : Str), (3 : Int)), (("default" : Str), (3 : Int)), (("greatest" : Str), (4 : Int)), (("fill" : Str), (3 : Int))], ∃ u, PySem.W.nsIn K (ga K "SIZES") q.1 = some (some u) ∧ RelV (.int q.2) u := fun q hq => by
    simp only [List.mem_cons, List.not_mem_nil, or_false] at hq
    rcases hq with rfl | rfl | rfl | rfl | rfl | rfl
    · exact He.valsB_ok e3 (q := ("add", .int 4)) (.head _)
    · exact He.valsB_ok e3 (q := ("drop", .int 2)) (.tail _ (.head _))
    · exact He.valsB_ok e3 (q := ("rename", .int 3)) (.tail _ (.tail _ (.head _)))
    · exact He.valsB_ok e3 (q := ("default", .int 3)) (.tail _ (.tail _ (.tail _ (.head _))))
    · exact He.valsB_ok e3 (q := ("greatest", .int 4)) (.tail _ (.tail _ (.tail _ (.tail _ (.head _)))))
    · exact He.valsB_ok e3 (q := ("fill", .int 3)) (.tail _ (.tail _ (.tail _ (.tail _ (.tail _ (.head _))))))
  obtain ⟨fd0, F0⟩ := c.t.d.def_ 49 (d := ⟨("Column", some "__init__"), "__init__", "Column.__init__", defArgs s_Column_init, defBody s_Column_init, defScope s_Column_init, [.non], [("number", .int 0)]⟩) rfl
  obtain ⟨fd1, F1⟩ := c.t.d.def_ 50 (d := ⟨("Column", some "__eq__"), "__eq__", "Column.__eq__", defArgs s_Column_eq, defBody s_Column_eq, defScope s_Column_eq, [], []⟩) rfl
  obtain ⟨fd2, F2⟩ := c.t.d.def_ 51 (d := ⟨("Column", some "changed"), "changed", "Column.changed", defArgs s_Column_changed, defBody s_Column_changed, defScope s_Column_changed, [], []⟩) rfl
  obtain ⟨fd3, F3⟩ := c.t.d.def_ 52 (d := ⟨("History", some "__init__"), "__init__", "History.__init__", defArgs s_History_init, defBody s_History_init, defScope s_History_init, [.adr (He.dflAt ("History", some "__init__") 0)], []⟩) rfl
  obtain ⟨fd4, F4⟩ := c.t.d.def_ 53 (d := ⟨("History", some "__eq__"), "__eq__", "History.__eq__", defArgs s_History_eq, defBody s_History_eq, defScope s_History_eq, [], []⟩) rfl
  obtain ⟨fd5, F5⟩ := c.t.d.def_ 54 (d := ⟨("History", some "first_columns"), "first_columns", "History.first_columns", defArgs s_History_first_columns, defBody s_History_first_columns, defScope s_History_first_columns, [], []⟩) rfl
  obtain ⟨fd6, F6⟩ := c.t.d.def_ 55 (d := ⟨("History", some "changes_told"), "changes_told", "History.changes_told", defArgs s_History_changes_told, defBody s_History_changes_told, defScope s_History_changes_told, [], []⟩) rfl
  exact {
    b_isinstance := He.free_ok X G (c.t.d.fact 0 (f := .free "isinstance") rfl)
    b_int := He.free_ok X G (c.t.d.fact 1 (f := .free "int") rfl)
    b_bool := He.free_ok X G (c.t.d.fact 2 (f := .free "bool") rfl)
    b_str := He.free_ok X G (c.t.d.fact 3 (f := .free "str") rfl)
    b_len := He.free_ok X G (c.t.d.fact 4 (f := .free "len") rfl)
    b_list := He.free_ok X G (c.t.d.fact 5 (f := .free "list") rfl)
    b_tuple := He.free_ok X G (c.t.d.fact 6 (f := .free "tuple") rfl)
    b_all := He.free_ok X G (c.t.d.fact 7 (f := .free "all") rfl)
    b_enumerate := He.free_ok X G (c.t.d.fact 8 (f := .free "enumerate") rfl)
    b_zip := He.free_ok X G (c.t.d.fact 9 (f := .free "zip") rfl)
    b_max := He.free_ok X G (c.t.d.fact 10 (f := .free "max") rfl)
    b_min := He.free_ok X G (c.t.d.fact 11 (f := .free "min") rfl)
    b_range := He.free_ok X G (c.t.d.fact 12 (f := .free "range") rfl)
    c_LETTERS := He.str_ok X G (c.t.d.fact 13 (f := .str "LETTERS" "abcdefghijklmnopqrstuvwxyz") rfl)
    c_MISSING := He.str_ok X G (c.t.d.fact 14 (f := .str "MISSING" "missing") rfl)
    c_FIGURES := He.str_ok X G (c.t.d.fact 15 (f := .str "FIGURES" "0123456789") rfl)
    c_NOTHING := He.str_ok X G (c.t.d.fact 16 (f := .str "NOTHING" "-") rfl)
    c_MOST_LETTERS := He.int_ok X G (c.t.d.fact 17 (f := .int "MOST_LETTERS" 8) rfl)
    c_MOST_GREATEST := He.int_ok X G (c.t.d.fact 18 (f := .int "MOST_GREATEST" 99) rfl)
    c_MOST_COLUMNS := He.int_ok X G (c.t.d.fact 19 (f := .int "MOST_COLUMNS" 6) rfl)
    c_MOST_CHANGES := He.int_ok X G (c.t.d.fact 20 (f := .int "MOST_CHANGES" 40) rfl)
    t_COLUMN_PARTS := ⟨_, He.glo_ok X G (c.t.d.fact 21 (f := .glo "COLUMN_PARTS") rfl), fun H => He.tupB_ok e2 H⟩
    t_WAYS := ⟨_, He.glo_ok X G (c.t.d.fact 22 (f := .glo "WAYS") rfl), fun H => He.tupB_ok e1 H⟩
    t_SIZES := ⟨_, es, n, He.glo_ok X G (c.t.d.fact 23 (f := .glo "SIZES") rfl), hD, sz⟩
    g_Column := He.glo_ok X G (c.t.d.fact 24 (f := .glo "Column") rfl)
    cl_Column := He.cls_ok (c.t.d.fact 26 (f := .cls "Column") rfl)
    is_Column := insB_ok (He.cls_ok (c.t.d.fact 26 (f := .cls "Column") rfl)) e4
    g_History := He.glo_ok X G (c.t.d.fact 25 (f := .glo "History") rfl)
    cl_History := He.cls_ok (c.t.d.fact 28 (f := .cls "History") rfl)
    is_History := insB_ok (He.cls_ok (c.t.d.fact 28 (f := .cls "History") rfl)) e5
    n_Column_name := He.noat_ok (c.t.d.fact 30 (f := .noat "Column" "name") rfl)
    n_Column_greatest := He.noat_ok (c.t.d.fact 31 (f := .noat "Column" "greatest") rfl)
    n_Column_default := He.noat_ok (c.t.d.fact 32 (f := .noat "Column" "default") rfl)
    n_Column_number := He.noat_ok (c.t.d.fact 33 (f := .noat "Column" "number") rfl)
    n_History_sheets := He.noat_ok (c.t.d.fact 34 (f := .noat "History" "sheets") rfl)
    n_History_given := He.noat_ok (c.t.d.fact 35 (f := .noat "History" "given") rfl)
    n_History_kept_changes := He.noat_ok (c.t.d.fact 36 (f := .noat "History" "kept_changes") rfl)
    m_Column_init := ⟨_, fd0, He.mkr_ok (c.t.d.fact 27 (f := .mkr "Column") rfl), F0⟩
    m_Column_eq := ⟨_, fd1, ⟨(He.meth_ok (c.t.d.fact 37 (f := .meth "Column" "__eq__") rfl)).at_, (He.meth_ok (c.t.d.fact 37 (f := .meth "Column" "__eq__") rfl)).fn⟩, F1⟩
    m_Column_changed := ⟨_, fd2, He.meth_ok (c.t.d.fact 38 (f := .meth "Column" "changed") rfl), F2⟩
    m_History_init := ⟨_, fd3, _, He.mkr_ok (c.t.d.fact 29 (f := .mkr "History") rfl), F3⟩
    m_History_eq := ⟨_, fd4, neB_ok e6, F4⟩
    m_History_first_columns := ⟨_, fd5, He.meth_ok (c.t.d.fact 39 (f := .meth "History" "first_columns") rfl), F5⟩
    m_History_changes_told := ⟨_, fd6, He.meth_ok (c.t.d.fact 40 (f := .meth "History" "changes_told") rfl), F6⟩
    d_is_integer := def_at X G c 0 41 rfl rfl
    d_is_between := def_at X G c 1 42 rfl rfl
    d_is_name := def_at X G c 2 43 rfl rfl
    d_is_value := def_at X G c 3 44 rfl rfl
    d_is_within := def_at X G c 4 45 rfl rfl
    d_is_change := def_at X G c 5 46 rfl rfl
    d_named := def_at X G c 6 47 rfl rfl
    d_why_not_add := def_at X G c 7 48 rfl rfl
    d_why_not := def_at X G c 8 49 rfl rfl
    d_narrowed := def_at X G c 9 50 rfl rfl
    d_changed_column := def_at X G c 10 51 rfl rfl
    d_changed_columns := def_at X G c 11 52 rfl rfl
    d_checked_columns := def_at X G c 12 53 rfl rfl
    d_next_number := def_at X G c 13 54 rfl rfl
    d_all_sheets := def_at X G c 14 55 rfl rfl
    d_is_numeral := def_at X G c 15 56 rfl rfl
    d_is_value_word := def_at X G c 16 57 rfl rfl
    d_value_text := def_at X G c 17 58 rfl rfl
    d_value_in := def_at X G c 18 59 rfl rfl
    d_write_change := def_at X G c 19 60 rfl rfl
    d_column_text := def_at X G c 20 61 rfl rfl
    d_write_history := def_at X G c 21 62 rfl rfl
    d_write_told := def_at X G c 22 63 rfl rfl
    d_is_greatest_word := def_at X G c 23 64 rfl rfl
    d_change_in := def_at X G c 24 65 rfl rfl
    d_short_change := def_at X G c 25 66 rfl rfl
    d_read_change := def_at X G c 26 67 rfl rfl
    d_column_in := def_at X G c 27 68 rfl rfl
    d_read_history := def_at X G c 28 69 rfl rfl
    d_told_in := def_at X G c 29 70 rfl rfl
    d_read_told := def_at X G c 30 71 rfl rfl
    d_law_pool := def_at X G c 31 72 rfl rfl
    d_law_draw := def_at X G c 32 73 rfl rfl
    d_law_pick := def_at X G c 33 74 rfl rfl
    d_law_value := def_at X G c 34 75 rfl rfl
    d_law_word := def_at X G c 35 76 rfl rfl
    d_law_cut := def_at X G c 36 77 rfl rfl
    d_law_col_then := def_at X G c 37 78 rfl rfl
    d_law_then := def_at X G c 38 79 rfl rfl
    d_law_change := def_at X G c 39 80 rfl rfl
    d_law_first := def_at X G c 40 81 rfl rfl
    d_law_history := def_at X G c 41 82 rfl rfl
    d_law_cols := def_at X G c 42 83 rfl rfl
    d_law_made := def_at X G c 43 84 rfl rfl
    d_law_vt := def_at X G c 44 85 rfl rfl
    d_law_ct := def_at X G c 45 86 rfl rfl
    d_law_ht := def_at X G c 46 87 rfl rfl
    d_law_tt := def_at X G c 47 88 rfl rfl
    d_law := def_at X G c 48 89 rfl rfl }
theorem facts {P : Program} {w : World} {K : PySem.W.Frag} {h : Heap} {mg : Str → Option Value} {f : Addr} (X : K.In h) (G : h.Ns mainGlobals mg) (hfa : mg ("law" : Str) = some (.ref f)) (c : SaysY w K) :
    ∃ fd : FuncData, (∀ (s : Shared) (v : Value), BindsTo s fd ⟨[v], []⟩ [("_law_script", v)]) ∧ ∀ base : Heap, K.In base → base.Ns mainGlobals mg → FnOk P w K mg base CX0 13 f fd ["_law_script"] (spLaw K) := by
  have T := txt_of X G c
  obtain ⟨f0, fd, F, hm⟩ := T.d_law
  have e := hfa.symm.trans hm
  cases e
  have b := FunD.bindsA (ps := ["_law_script"]) F fun _ _ _ _ _ _ us hl => match us, hl with | [_], _ => rfl
  exact ⟨fd, fun s v => b s [v] rfl, fun base _ _ => ok_law T F⟩
end Ed
open PySem PySem.W PySem.Calls PyProof.Rows
theorem PySem.Challenge.cw_editionrows_k73_whole_texts_there_and_ba_holds : PySem.Challenge.rw_editionrows_k73_whole_texts_there_and_ba.Holds := by
  w_on; o_law
  refine HandSHeadRun.head_any (r := OpenLaw.row PySem.Challenge.rw_editionrows_k73_whole_texts_there_and_ba) (q := view (OpenLaw.row PySem.Challenge.rw_editionrows_k73_whole_texts_there_and_ba).prog [78]) (H := Ed.hk) (ob := Ed.ob) (M := 8000) (loose := Ed.names) (d := HandSHeadRun.topDef (OpenLaw.row PySem.Challenge.rw_editionrows_k73_whole_texts_there_and_ba).prog 78) (kwd := []) Ed.ob_eq
    (by kernel_rfl) (fun s => by kernel_rfl) Ed.run (by kernel_rfl) (by kernel_rfl) (by kernel_rfl) (by rfl) (by first | assumption | decide +kernel) (by decide +kernel) ⟨rfl, rfl, rfl, rfl, rfl, by decide +kernel⟩ ?hw ?hc
  case hw => w_witness2
  case hc =>
    refine L2.walk_ofE (l := PySem.Challenge.rw_editionrows_k73_whole_texts_there_and_ba) (n := 63) (k := 13) (x := "_law_script") (CX := L2.CX0) rfl (by decide) (by kernel_rfl) ⟨rfl, by decide, by decide⟩ ?F (fun _ _ _ _ z => z)
    intro w mg fa h Y G hmg0
    obtain ⟨K, KX, c⟩ := Y
    have hmg : mg ("law" : PySem.Str) = some (.ref fa) := by
      have e : (HandSHeadRun.topDef (OpenLaw.row PySem.Challenge.rw_editionrows_k73_whole_texts_there_and_ba).prog 78).name = ("law" : PySem.Str) := by kernel_rfl
      rw [← e]
      exact hmg0
    obtain ⟨fd, hb, hF⟩ := Ed.facts (P := (PySem.Challenge.rw_editionrows_k73_whole_texts_there_and_ba).prog) (w := w) KX G hmg c
    exact ⟨K, fd, Ed.spLaw K, KX, hb, fun H a ns hl _ hS => ⟨a, ns, rfl, hS, fun _ => rfl⟩, hF⟩
