import PyProof.Rows.All
import Wide.All
import OpenK.AllK
import Wide.FinOn
import PySem.Challenge.RW_pf0162_01
open PySem PySem.W PyProof.Rows PySem.Spec PySem.Calls
set_option Elab.async false
set_option compiler.extract_closed false
set_option maxRecDepth 100000
namespace Mine
theorem seedSame : instDecidableEqStr = instDecidableEqStr := rfl
end Mine
name_quick tw8075568018651887793 for PySem.instDecidableEqStr by Mine.seedSame
name_quick tw16134794200973349284 for PySem.instDecidableEqStr by Mine.seedSame
name_quick tw14979626087600564940 for PySem.instDecidableEqStr by Mine.seedSame
name_quick tw14214628910294446251 for PySem.instDecidableEqStr by Mine.seedSame
name_quick tw14847034805825309785 for PySem.instDecidableEqStr by Mine.seedSame
name_quick tw8974274202572390862 for PySem.instDecidableEqStr by Mine.seedSame
name_quick tw8365737250058030908 for PySem.instDecidableEqStr by Mine.seedSame
name_quick tw2509020472811716534 for PySem.instDecidableEqStr by Mine.seedSame
name_quick tw16360918003126229584 for PySem.instDecidableEqStr by Mine.seedSame
name_quick tw939162767068533735 for PySem.instDecidableEqStr by Mine.seedSame
name_quick tw2905824091091238844 for PySem.instDecidableEqStr by Mine.seedSame
name_quick tw3094477031063562474 for PySem.instDecidableEqStr by Mine.seedSame
name_quick tw11853533878840232495 for PySem.instDecidableEqStr by Mine.seedSame
name_quick tw14333388528381170442 for PySem.instDecidableEqStr by Mine.seedSame
name_quick tw13381251411439493676 for PySem.instDecidableEqStr by Mine.seedSame
name_quick tw18350330562280901221 for PySem.instDecidableEqStr by Mine.seedSame
name_quick tw2334193516648215543 for PySem.instDecidableEqStr by Mine.seedSame
name_quick tw11277716924127702174 for PySem.instDecidableEqStr by Mine.seedSame
name_quick tw17476080006546285661 for PySem.instDecidableEqStr by Mine.seedSame
name_quick tw17532718790514356516 for PySem.instDecidableEqStr by Mine.seedSame
name_quick tw7232422423428716515 for PySem.instDecidableEqStr by Mine.seedSame
name_quick tw15066959818950650227 for PySem.instDecidableEqStr by Mine.seedSame
name_quick tw13036272033356848781 for PySem.instDecidableEqStr by Mine.seedSame
name_quick tw11186114360453789277 for PySem.instDecidableEqStr by Mine.seedSame
name_quick tw17552769576498331613 for PySem.instDecidableEqStr by Mine.seedSame
name_quick tw17070079461858475408 for PySem.instDecidableEqStr by Mine.seedSame
name_quick tw4090926877573551719 for PySem.instDecidableEqStr by Mine.seedSame
name_quick tw9011979029575296479 for PySem.instDecidableEqStr by Mine.seedSame
name_quick tw5357591511691535388 for PySem.instDecidableEqStr by Mine.seedSame
name_quick tw2478078296215019888 for PySem.instDecidableEqStr by Mine.seedSame
name_quick tw17000458434675057986 for PySem.instDecidableEqStr by Mine.seedSame
name_quick tw2660918139993853925 for PySem.instDecidableEqStr by Mine.seedSame
name_quick tw13358618909089187005 for PySem.instDecidableEqStr by Mine.seedSame
name_quick tw8603108125212654177 for PySem.instDecidableEqStr by Mine.seedSame
name_quick tw6004533443673955352 for PySem.instDecidableEqStr by Mine.seedSame
name_quick tw16145008321745377990 for PySem.instDecidableEqStr by Mine.seedSame
name_quick tw6792406925840432001 for PySem.instDecidableEqStr by Mine.seedSame
name_quick tw13559156169165276386 for PySem.instDecidableEqStr by Mine.seedSame
name_quick tw11317593695737139937 for PySem.instDecidableEqStr by Mine.seedSame
name_quick tw3152983702415266003 for PySem.instDecidableEqStr by Mine.seedSame
name_quick tw4558998842232669794 for PySem.instDecidableEqStr by Mine.seedSame
name_quick tw14714103240675001986 for PySem.instDecidableEqStr by Mine.seedSame
name_quick tw5529568453561195837 for PySem.instDecidableEqStr by Mine.seedSame
name_quick tw11566699232636054958 for PySem.instDecidableEqStr by Mine.seedSame
name_quick tw10528696920762540405 for PySem.instDecidableEqStr by Mine.seedSame
name_quick tw16643706677886111943 for PySem.instDecidableEqStr by Mine.seedSame
name_quick tw12945451867199242903 for PySem.instDecidableEqStr by Mine.seedSame
name_quick tw17111948838632640456 for PySem.instDecidableEqStr by Mine.seedSame
name_quick tw15007238320947547705 for PySem.instDecidableEqStr by Mine.seedSame
name_quick tw12290603225136948437 for PySem.instDecidableEqStr by Mine.seedSame
name_quick tw12635297910168745909 for PySem.instDecidableEqStr by Mine.seedSame
name_quick tw1218959903707654005 for PySem.instDecidableEqStr by Mine.seedSame
name_quick tw14311459727803291754 for PySem.instDecidableEqStr by Mine.seedSame
name_quick tw3560238982266916124 for PySem.instDecidableEqStr by Mine.seedSame
name_quick tw17954471519018878134 for PySem.instDecidableEqStr by Mine.seedSame
name_quick tw6245536207120538393 for PySem.instDecidableEqStr by Mine.seedSame
name_quick tw13145125596335152023 for PySem.instDecidableEqStr by Mine.seedSame
name_quick tw219737044198020058 for PySem.instDecidableEqStr by Mine.seedSame
name_quick tw4549333791460862111 for PySem.instDecidableEqStr by Mine.seedSame
name_quick tw13180171748994924942 for PySem.instDecidableEqStr by Mine.seedSame
name_quick tw16593013826814733010 for PySem.instDecidableEqStr by Mine.seedSame
name_quick tw1503297043503765363 for PySem.instDecidableEqStr by Mine.seedSame
name_quick tw9501820088010722379 for PySem.instDecidableEqStr by Mine.seedSame
name_quick tw10887116778572429059 for PySem.instDecidableEqStr by Mine.seedSame
name_quick tw14821650378409806113 for PySem.instDecidableEqStr by Mine.seedSame
name_quick tw7745614565497352828 for PySem.instDecidableEqStr by Mine.seedSame
name_quick tw4292500188555128830 for PySem.instDecidableEqStr by Mine.seedSame
name_quick tw14386061602966655976 for PySem.instDecidableEqStr by Mine.seedSame
name_quick tw18345786424863182364 for PySem.instDecidableEqStr by Mine.seedSame
name_quick tw1333364371103165705 for PySem.instDecidableEqStr by Mine.seedSame
name_quick tw3362959441861295915 for PySem.instDecidableEqStr by Mine.seedSame
name_quick tw11420187438672877268 for PySem.instDecidableEqStr by Mine.seedSame
name_quick tw900395245841561262 for PySem.instDecidableEqStr by Mine.seedSame
name_quick tw682011567655089306 for PySem.instDecidableEqStr by Mine.seedSame
name_quick tw2862820112641550484 for PySem.instDecidableEqStr by Mine.seedSame
name_quick tw16846860572762119324 for PySem.instDecidableEqStr by Mine.seedSame
name_quick tw7392212959928792091 for PySem.instDecidableEqStr by Mine.seedSame
name_quick tw17672482021469178181 for PySem.instDecidableEqStr by Mine.seedSame
name_quick tw5770868932273138760 for PySem.instDecidableEqStr by Mine.seedSame
name_quick tw17532440430192770315 for PySem.instDecidableEqStr by Mine.seedSame
name_quick tw12659028871203227004 for PySem.instDecidableEqStr by Mine.seedSame
name_quick tw16741492637210864865 for PySem.instDecidableEqStr by Mine.seedSame
name_quick tw6683783046931543321 for PySem.instDecidableEqStr by Mine.seedSame
name_quick tw17730448691065144110 for PySem.instDecidableEqStr by Mine.seedSame
namespace Mine
set_option maxHeartbeats 8000000 in
open_top hd for PySem.Challenge.rw_pf0162_01
end Mine
namespace Mine
section
open PySem.Builtin PySem.Builtin.Str
/-- a text by its signs -/
abbrev S (l : List Nat) : PySem.Str := ⟨⟨l⟩⟩
theorem S_len (l : List Nat) : (S l).length = l.length := rfl
theorem nneg (a : Nat) : ¬ ((a : Int) < 0) := Int.not_lt.mpr (Int.natCast_nonneg a)
theorem clip1 (a n : Nat) : max (0 : Int) (min (a : Int) (n : Int)) = ((min a n : Nat) : Int) := by
  rw [Int.max_eq_right (Int.le_min.mpr ⟨Int.natCast_nonneg _, Int.natCast_nonneg _⟩)]
  rcases Nat.le_total a n with h | h
  · rw [Nat.min_eq_left h, Int.min_eq_left (Int.ofNat_le.mpr h)]
  · rw [Nat.min_eq_right h, Int.min_eq_right (Int.ofNat_le.mpr h)]
theorem clip2 (a n : Nat) : max (0 : Int) (min ((min a n : Nat) : Int) (n : Int)) = ((min a n : Nat) : Int) := by
  rw [clip1, Nat.min_assoc, Nat.min_self]
theorem one_pos : ((1 : Int) > 0) = True := eq_true (by decide)
theorem clip_indices (a b n : Nat) : strSliceIndices (some (a : Int)) (some (b : Int)) 1 n = strSliceIndices (some ((min a n : Nat) : Int)) (some ((min b n : Nat) : Int)) 1 n := by
  simp only [strSliceIndices, one_pos, if_true, nneg, if_false, clip2]
  simp only [clip1]
theorem low_indices (b n : Nat) : strSliceIndices none (some (b : Int)) 1 n = strSliceIndices (some ((0 : Nat) : Int)) (some (b : Int)) 1 n := by
  simp only [strSliceIndices, show ((1 : Int) > 0) = True from by simp, if_true]
  simp only [nneg, if_false]
  congr 1
theorem high_indices (a n : Nat) : strSliceIndices (some (a : Int)) none 1 n = strSliceIndices (some (a : Int)) (some (n : Int)) 1 n := by
  simp only [strSliceIndices, show ((1 : Int) > 0) = True from by simp, if_true]
  simp only [nneg, if_false]
  congr 1
  omega
theorem pick_S (x : List Nat) (a b : Nat) : (strSliceIndices (some (a : Int)) (some (b : Int)) 1 x.length).filterMap ((S x).cps[·]?) = (x.drop a).take (b - a) := by
  rw [clip_indices]
  by_cases hab : min a x.length ≤ min b x.length
  · have h := StrLaws.sliced_plain (S x) (a := min a x.length) (b := min b x.length) hab (Nat.min_le_right _ _)
    rw [show (S x).length = x.length from rfl] at h
    rw [h]
    show (x.drop (min a x.length)).take (min b x.length - min a x.length) = _
    by_cases ha : a ≤ x.length
    · rw [Nat.min_eq_left ha]
      by_cases hb : b ≤ x.length
      · rw [Nat.min_eq_left hb]
      · have hb2 := Nat.le_of_lt (Nat.not_le.mp hb)
        rw [Nat.min_eq_right hb2]
        rw [List.take_of_length_le (Nat.le_of_eq List.length_drop), List.take_of_length_le (by rw [List.length_drop]; exact Nat.sub_le_sub_right hb2 a)]
    · have ha2 := Nat.le_of_lt (Nat.not_le.mp ha)
      rw [Nat.min_eq_right ha2, List.drop_of_length_le (Nat.le_refl _), List.drop_of_length_le ha2, List.take_nil, List.take_nil]
  · have hba : b ≤ a := Nat.le_of_lt (Nat.lt_of_not_le fun h => hab (Nat.le_min.mpr ⟨Nat.le_trans (Nat.min_le_left _ _) h, Nat.min_le_right _ _⟩))
    rw [Nat.sub_eq_zero_of_le hba, List.take_zero]
    have h3 : ¬ (((min a x.length : Nat) : Int) < ((min b x.length : Nat) : Int)) := fun h => hab (Nat.le_of_lt (Int.ofNat_lt.mp h))
    simp only [strSliceIndices, sliceRange, nneg, if_false, clip2, h3, one_pos, if_true]
    rfl
theorem slice_of (x : List Nat) (l u : Option Int) (r : List Nat) (h : (strSliceIndices l u 1 x.length).filterMap ((S x).cps[·]?) = r)
    (hlen : ((strSliceIndices l u 1 x.length).length == x.length) = true → r = x) : Txt.slice (S x) l u = S r := by
  unfold Txt.slice
  split
  · rename_i hc
    simp only [beq_self_eq_true, Bool.true_and] at hc
    rw [hlen hc]
  · rw [show (S x).length = x.length from rfl, h]
theorem len_indices (a b : Nat) (n : Nat) : (strSliceIndices (some (a : Int)) (some (b : Int)) 1 n).length = min b n - min a n := by
  rw [clip_indices]
  by_cases hab : min a n ≤ min b n
  · rw [StrLaws.strSliceIndices_plain hab (Nat.min_le_right _ _)]
    simp
  · have h3 : ¬ (((min a n : Nat) : Int) < ((min b n : Nat) : Int)) := fun h => hab (Nat.le_of_lt (Int.ofNat_lt.mp h))
    simp only [strSliceIndices, sliceRange, nneg, if_false, clip2, h3, one_pos, if_true]
    simp only [Int.toNat_zero, List.range_zero, List.map_nil, List.length_nil]
    exact (Nat.sub_eq_zero_of_le (Nat.le_of_lt (Nat.not_le.mp hab))).symm
theorem full_span {a b n : Nat} (h : min b n - min a n = n) (h0 : ¬ n = 0) : a = 0 ∧ n ≤ b - 0 := by
  have h1 : n ≤ min b n := Nat.le_trans (Nat.le_of_eq h.symm) (Nat.sub_le _ _)
  have h2 : min b n = n := Nat.le_antisymm (Nat.min_le_right _ _) h1
  refine ⟨?_, Nat.le_trans h1 (Nat.min_le_left _ _)⟩
  rw [h2] at h
  cases a with
  | zero => rfl
  | succ a => exact absurd h (Nat.ne_of_lt (Nat.sub_lt (Nat.pos_of_ne_zero h0) (Nat.lt_min.mpr ⟨Nat.succ_pos _, Nat.pos_of_ne_zero h0⟩)))
theorem slice_ss (x : List Nat) (a b : Nat) : Txt.slice (S x) (some (a : Int)) (some (b : Int)) = S ((x.drop a).take (b - a)) := by
  refine slice_of x _ _ _ (pick_S x a b) fun h => ?_
  rw [len_indices, beq_iff_eq] at h
  by_cases h0 : x.length = 0
  · have : x = [] := List.eq_nil_of_length_eq_zero h0
    subst this; simp
  · obtain ⟨ha, hb⟩ := full_span h h0
    subst ha
    rw [List.drop_zero, List.take_of_length_le hb]
theorem slice_ns (x : List Nat) (b : Nat) : Txt.slice (S x) none (some (b : Int)) = S (x.take b) := by
  have := slice_ss x 0 b
  unfold Txt.slice at this ⊢
  rw [low_indices]
  simpa using this
theorem slice_sn (x : List Nat) (a : Nat) : Txt.slice (S x) (some (a : Int)) none = S (x.drop a) := by
  have := slice_ss x a x.length
  unfold Txt.slice at this ⊢
  rw [high_indices]
  rw [show (S x).length = x.length from rfl] at this ⊢
  rw [this, List.take_of_length_le (by simp)]
section
variable {prog : Program} {w : World} {A : Around} {E : Value → Shared → Prop} {s : Shared} {t u : Tok} {Q : Value → Shared → Prop} {x y : List Nat}
theorem r_len (hx : x.length ≤ 1000000) (h : ∀ t' k, Q (.int x.length t') { s with toks := k }) :
    wpAny (model prog w) A (call (.builtin "len") [.str (S x) t]) Q E s :=
  P.len_str (by rw [S_len]; omega) (h _ _)
theorem r_eq (h : Q (.bool (decide (x = y))) s) : wpAny (model prog w) A (compareOp .Eq (.str (S x) t) (.str (S y) u)) Q E s :=
  P.eq_str (by
    have : ((S x).cps.toList == (S y).cps.toList) = decide (x = y) := by
      show (x == y) = _
      by_cases e : x = y <;> simp [e]
    rw [this]; exact h)
theorem r_ne (h : Q (.bool (!decide (x = y))) s) : wpAny (model prog w) A (compareOp .NotEq (.str (S x) t) (.str (S y) u)) Q E s :=
  P.ne_str (by
    have : ((S x).cps.toList != (S y).cps.toList) = !decide (x = y) := by
      show (x != y) = _
      by_cases e : x = y <;> simp [e]
    rw [this]; exact h)
theorem r_add (hx : x.length + y.length ≤ 1000000) (h : ∀ t' k, Q (.str (S (x ++ y)) t') { s with toks := k }) :
    wpAny (model prog w) A (binaryOp .Add (.str (S x) t) (.str (S y) u)) Q E s :=
  KXadd.add (x := S x) (y := S y) (K := x.length) (L := y.length) (Nat.le_refl _) (Nat.le_refl _) (by omega) (fun t' k _ => by
    have e : S x ++ S y = S (x ++ y) := PySem.Str.ext' (by show (Array.mk x) ++ (Array.mk y) = _; simp)
    rw [e]; exact h t' k)
theorem r_in {c : Nat} (h : Q (.bool (decide (c ∈ y))) s) : wpAny (model prog w) A (compareOp .In (.str (S [c]) t) (.str (S y) u)) Q E s :=
  P.in_str (by
    have := StrLaws.found_one (S y) c
    rw [show (⟨#[c]⟩ : PySem.Str) = S [c] from rfl] at this
    rw [this]; exact h)
theorem item_S {i : Int} (h0 : 0 ≤ i) (h1 : i < x.length) : Txt.item (S x) i = S [x.getD i.toNat 0] := by
  have e : Txt.charAt (S x) i = some (x.getD i.toNat 0) := by
    unfold Txt.charAt seqIndex?
    have : ¬ i < 0 := by omega
    rw [show (S x).length = x.length from rfl]
    simp only [this, if_false]
    have h2 : (0 ≤ i ∧ i < (x.length : Int)) := ⟨h0, h1⟩
    simp only [h2, if_true, Bool.and_eq_true, decide_eq_true_eq, and_self, Option.bind_some]
    have : i.toNat < x.length := by omega
    simp [List.getD, this]
  unfold Txt.item
  rw [e]; rfl
theorem tn0 (i : Nat) : ((i : Int)).toNat = i := rfl
theorem tn1 (i : Nat) : ((i : Int) + 1).toNat = i + 1 := rfl
theorem tn2 (i : Nat) : ((i : Int) + 2).toNat = i + 2 := rfl
theorem tnk (i k : Nat) : ((i : Int) + (k : Int)).toNat = i + k := rfl
theorem tni (i : Int) : i.toNat = i.toNat := rfl
theorem r_item {value slice : PySem.Expr} {i : Int} {n : Nat} (e : i.toNat = n) (h0 : 0 ≤ i) (h1 : i < x.length) (hx : x.length ≤ 1000000)
    (h : ∀ t' k, Q (.str (S [x.getD n 0]) t') { s with toks := k })
    (hs : subscripted slice false (.str (S x) t) (.int i u) = operate [.str (S x) t, .int i u] (getItem (.str (S x) t) (.int i u)) := by with_unfolding_all rfl)
    (ht : ∀ r, letTemporaryGo value (.str (S x) t) r = pure () := by intro _; with_unfolding_all rfl) :
    wpAny (model prog w) A (subscriptTail value slice (.str (S x) t) (.int i u)) Q E s :=
  item_str (fitsSsize_of (N := 9223372036854775808) (by omega) (by omega) (Int.le_refl _)) (by rw [S_len]; omega) (by rw [S_len]; omega) (fun _ => by rw [item_S h0 h1, e]; exact h _ _) hs ht
end
section
variable {prog : Program} {w : World} {A : Around} {E : Value → Shared → Prop} {s : Shared} {t : Tok} {h₀ : Heap} {L : Addr} {m : Str → Option Value} {news : List (Addr × Obj)} {value slice : PySem.Expr} {Q : Value → Shared → Prop} {x : List Nat}
theorem r_slice_ss {i j : Int} {a b n : Nat} {ui uj : Tok} (ea : i.toNat = a) (eb : j.toNat = b) (en : b - a = n) (hF : Fr h₀ L s.heap m) (hN : News h₀ L s.heap news) (h0 : 0 ≤ i) (h1 : 0 ≤ j) (hx : x.length ≤ 1000000)
    (h : ∀ h' t' k, Fr h₀ L h' m → News h₀ L h' news → Q (.str (S ((x.drop a).take n)) t') { s with heap := h', toks := k })
    (hs : subscripted slice false (.str (S x) t) (.ref s.heap.objs.size) = operate [.ref s.heap.objs.size, .str (S x) t] (getItem (.str (S x) t) (.ref s.heap.objs.size)) := by with_unfolding_all rfl)
    (ht : ∀ r, letTemporaryGo value (.str (S x) t) r = pure () := by intro _; with_unfolding_all rfl) :
    wpAny (model prog w) A (subscriptTail value slice (.str (S x) t) (.ref s.heap.objs.size)) Q E { s with heap := s.heap.push { cls := .type "slice", data := .fields #[.int i ui, .int j uj, .none] } } :=
  slice_strN_ss hF hN (fun h' t' k a' b' => by
    subst en ea eb
    have e : Txt.slice (S x) (some i) (some j) = S ((x.drop i.toNat).take (j.toNat - i.toNat)) := by
      have := slice_ss x i.toNat j.toNat
      rwa [Int.toNat_of_nonneg h0, Int.toNat_of_nonneg h1] at this
    rw [e]; exact h h' t' k a' b') hs ht (by rw [S_len, sizeLine_eq]; omega)
theorem r_slice_ns {j : Int} {b : Nat} {uj : Tok} (eb : j.toNat = b) (hF : Fr h₀ L s.heap m) (hN : News h₀ L s.heap news) (h1 : 0 ≤ j) (hx : x.length ≤ 1000000)
    (h : ∀ h' t' k, Fr h₀ L h' m → News h₀ L h' news → Q (.str (S (x.take b)) t') { s with heap := h', toks := k })
    (hs : subscripted slice false (.str (S x) t) (.ref s.heap.objs.size) = operate [.ref s.heap.objs.size, .str (S x) t] (getItem (.str (S x) t) (.ref s.heap.objs.size)) := by with_unfolding_all rfl)
    (ht : ∀ r, letTemporaryGo value (.str (S x) t) r = pure () := by intro _; with_unfolding_all rfl) :
    wpAny (model prog w) A (subscriptTail value slice (.str (S x) t) (.ref s.heap.objs.size)) Q E { s with heap := s.heap.push { cls := .type "slice", data := .fields #[.none, .int j uj, .none] } } :=
  slice_strN_ns hF hN (fun h' t' k a' b' => by
    subst eb
    have e : Txt.slice (S x) none (some j) = S (x.take j.toNat) := by
      have := slice_ns x j.toNat
      rwa [Int.toNat_of_nonneg h1] at this
    rw [e]; exact h h' t' k a' b') hs ht (by rw [S_len, sizeLine_eq]; omega)
theorem r_slice_sn {i : Int} {a : Nat} {ui : Tok} (ea : i.toNat = a) (hF : Fr h₀ L s.heap m) (hN : News h₀ L s.heap news) (h0 : 0 ≤ i) (hx : x.length ≤ 1000000)
    (h : ∀ h' t' k, Fr h₀ L h' m → News h₀ L h' news → Q (.str (S (x.drop a)) t') { s with heap := h', toks := k })
    (hs : subscripted slice false (.str (S x) t) (.ref s.heap.objs.size) = operate [.ref s.heap.objs.size, .str (S x) t] (getItem (.str (S x) t) (.ref s.heap.objs.size)) := by with_unfolding_all rfl)
    (ht : ∀ r, letTemporaryGo value (.str (S x) t) r = pure () := by intro _; with_unfolding_all rfl) :
    wpAny (model prog w) A (subscriptTail value slice (.str (S x) t) (.ref s.heap.objs.size)) Q E { s with heap := s.heap.push { cls := .type "slice", data := .fields #[.int i ui, .none, .none] } } :=
  slice_strN_sn hF hN (fun h' t' k a' b' => by
    subst ea
    have e : Txt.slice (S x) (some i) none = S (x.drop i.toNat) := by
      have := slice_sn x i.toNat
      rwa [Int.toNat_of_nonneg h0] at this
    rw [e]; exact h h' t' k a' b') hs ht (by rw [S_len, sizeLine_eq]; omega)
end
def lowC (c : Nat) : Nat := if 65 ≤ c ∧ c ≤ 90 then c + 32 else c
theorem lower1 {c : Nat} (h : c < 128) : Txt.lower (S [c]) = S [lowC c] :=
  (by decide +kernel : ∀ c, c < 128 → Txt.lower (S [c]) = S [lowC c]) c h
def figureWorth (c : Nat) : Nat := if 48 ≤ c ∧ c ≤ 57 then c - 48 else if 97 ≤ c ∧ c ≤ 102 then c - 87 else if 65 ≤ c ∧ c ≤ 70 then c - 55 else 99
theorem find_hex {c : Nat} (h : c < 128) : Txt.find (PySem.Str.ofString "0123456789abcdef") (S [lowC c]) = if figureWorth c = 99 then -1 else (figureWorth c : Int) :=
  (by decide +kernel : ∀ c, c < 128 → Txt.find (PySem.Str.ofString "0123456789abcdef") (S [lowC c]) = if figureWorth c = 99 then -1 else (figureWorth c : Int)) c h
section
variable {prog : Program} {w : World} {A : Around} {E : Value → Shared → Prop} {s : Shared} {t u : Tok} {Q : Value → Shared → Prop}
theorem r_lower1 {c : Nat} (hc : c < 128) (h : ∀ t' k, Q (.str (S [lowC c]) t') { s with toks := k }) : wpAny (model prog w) A (call (.builtin "str.lower") [.str (S [c]) t]) Q E s :=
  SC.lower (by rw [lower1 hc]; rfl) (by rw [lower1 hc]; exact h _ _)
theorem r_find_hex {c : Nat} (hc : c < 128) (h : ∀ t' k, Q (.int (if figureWorth c = 99 then -1 else (figureWorth c : Int)) t') { s with toks := k }) :
    wpAny (model prog w) A (call (.builtin "str.find") [.str (PySem.Str.ofString "0123456789abcdef") t, .str (S [lowC c]) u]) Q E s :=
  SC.find (by rw [find_hex hc]; exact h _ _)
end
end
section
/-- what a call of a def of the text's says, from whatever frame of the text's: `P` is what it hands back, `led` the ledger's part that it may change -/
def Says (w : World) (dn un' : Nat) (f : Addr) (vs : List Value) (led : List (Addr × Obj)) (Out : List (Addr × Obj) → Value → List (Addr × Obj) → Prop) : Prop :=
  ∀ {loose : List Str} {mean : ExcName → Option Value} {mg mb : Str → Option Value} {dp un : Nat} {gd : Option (List Code)} {cn : Str} {cs : Scope} {a : Addr} {ccd : Value} {cl : List (Str × Addr)} {outer : List Env} {A₀ : Around} {base h₀ : Heap} {L : Addr} {m : Str → Option Value} {s : Shared} {Q E : Value → Shared → Prop} {news : List (Addr × Obj)},
   Below A₀ base outer h₀ → Fr h₀ L s.heap m → (hd.heap_39 w.params).In h₀ → News h₀ L s.heap (led ++ news) → Top topProg loose mean mg mb h₀ → cs.kind = .function →
   dp + dn < recursionLimit → un + un' < cLine → (∀ p ∈ led, ∀ q ∈ news, q.1 ≠ p.1) →
   (∀ (r : Value) (led' : List (Addr × Obj)) (h' : Heap) (tk' : Nat), Out news r led' → Fr h₀ L h' m → News h₀ L h' (led' ++ news) → Q r { s with heap := h', toks := tk' }) →
   wpAny (model PySem.Challenge.pw_pf0162_01 w) (ktrTop dp un gd cn cs L a ccd cl outer) (call (.ref f) vs) Q E s
/-- the same for a def that touches nothing of the ledger's and hands back plain data -/
def Gives (w : World) (dn un' : Nat) (f : Addr) (vs : List Value) (R : Tok → Value) : Prop :=
  ∀ {loose : List Str} {mean : ExcName → Option Value} {mg mb : Str → Option Value} {dp un : Nat} {gd : Option (List Code)} {cn : Str} {cs : Scope} {a : Addr} {ccd : Value} {cl : List (Str × Addr)} {outer : List Env} {A₀ : Around} {base h₀ : Heap} {L : Addr} {m : Str → Option Value} {s : Shared} {Q E : Value → Shared → Prop} {news : List (Addr × Obj)},
   Below A₀ base outer h₀ → Fr h₀ L s.heap m → (hd.heap_39 w.params).In h₀ → News h₀ L s.heap news → Top topProg loose mean mg mb h₀ → cs.kind = .function →
   dp + dn < recursionLimit → un + un' < cLine →
   (∀ (t : Tok) (h' : Heap) (tk' : Nat), Fr h₀ L h' m → News h₀ L h' news → Q (R t) { s with heap := h', toks := tk' }) →
   wpAny (model PySem.Challenge.pw_pf0162_01 w) (ktrTop dp un gd cn cs L a ccd cl outer) (call (.ref f) vs) Q E s
/-- a frame's names: those told here, else as before -/
def put (l : List (PySem.Str × Value)) (m : PySem.Str → Option Value) : PySem.Str → Option Value := fun y => match l.lookup y with | some v => some v | none => m y
theorem put_ext {l : List (PySem.Str × Value)} {m m' : PySem.Str → Option Value} (h1 : ∀ p ∈ l, m' p.1 = some p.2) (h2 : ∀ y, (∀ p ∈ l, y ≠ p.1) → m' y = m y) : m' = put l m := by
  funext y
  unfold put
  cases h : l.lookup y with
  | none =>
    refine h2 y fun p hp e => ?_
    rw [List.lookup_eq_none_iff] at h
    exact absurd (beq_iff_eq.mpr e) (by simpa using h p hp)
  | some v =>
    have hm : (y, v) ∈ l := by
      clear h1 h2
      induction l with
      | nil => cases h
      | cons q r ih =>
        rw [List.lookup_cons] at h
        split at h
        · rename_i hq
          have := beq_iff_eq.mp hq
          cases h
          rw [this]; exact .head _
        · exact .tail _ (ih h)
    exact h1 _ hm
theorem put_same {l : List (PySem.Str × Value)} {m : PySem.Str → Option Value} (h1 : ∀ p ∈ l, m p.1 = some p.2) : put l m = m := (put_ext h1 fun _ _ => rfl).symm
def WEnd {σ : Type} (h₀ : Heap) (L : Addr) (s : Shared) (led : σ → List (Addr × Obj)) (ps : σ → List (PySem.Str × Value)) (P : σ → Prop) (μ : σ → Nat) (c : σ) (s₂ : Shared) : Prop :=
  ∃ (c' : σ) (h' : Heap) (tk : Nat) (m' : PySem.Str → Option Value) (news' : List (Addr × Obj)), s₂ = { s with heap := h', toks := tk } ∧ Fr h₀ L h' m' ∧ News h₀ L h' news' ∧ (∀ p ∈ led c', p ∈ news') ∧ (∀ p ∈ ps c', m' p.1 = some p.2) ∧ P c' ∧ μ c' < μ c
def WPost {σ : Type} (h₀ : Heap) (L : Addr) (s : Shared) (led : σ → List (Addr × Obj)) (ps : σ → List (PySem.Str × Value)) (P : σ → Prop) (μ : σ → Nat) (Q : Flow → Shared → Prop) (c : σ) (f : Flow) (s₂ : Shared) : Prop :=
  match f with
  | .ret v => Q (.ret v) s₂
  | .brk => Q .next s₂
  | _ => WEnd h₀ L s led ps P μ c s₂
theorem WEnd.intro {σ : Type} {h₀ : Heap} {L : Addr} {s : Shared} {led : σ → List (Addr × Obj)} {ps : σ → List (PySem.Str × Value)} {m' : PySem.Str → Option Value} {P : σ → Prop} {μ : σ → Nat} {c : σ} {h' : Heap} {tk : Nat} {news' : List (Addr × Obj)} (c' : σ)
    (F : Fr h₀ L h' m') (N : News h₀ L h' news') (hn : ∀ p ∈ led c', p ∈ news') (h1 : ∀ p ∈ ps c', m' p.1 = some p.2) (hp : P c') (hm : μ c' < μ c) :
    WEnd h₀ L s led ps P μ c { s with heap := h', toks := tk } := ⟨c', h', tk, m', news', rfl, F, N, hn, h1, hp, hm⟩
/-- a while: `ps` tells every name that is asked later, `led` the ledger -/
theorem wh {prog : Program} {w : World} {A : Around} {E : Value → Shared → Prop} {Q : Flow → Shared → Prop} {s : Shared} {env : Env} {h₀ : Heap} {L : Addr}
    {σ : Type} {test : PySem.Expr} {body : List Stmt} {pos : Pos} {m₀ : PySem.Str → Option Value} {news₀ : List (Addr × Obj)} (led : σ → List (Addr × Obj)) (ps : σ → List (PySem.Str × Value)) (P : σ → Prop) (μ : σ → Nat) (c₀ : σ)
    (F : Fr h₀ L s.heap m₀) (N : News h₀ L s.heap news₀) (hn : ∀ p ∈ led c₀, p ∈ news₀) (hk : ∀ p ∈ ps c₀, m₀ p.1 = some p.2) (hp : P c₀)
    (turn : ∀ (c : σ) u h tk, P c → Fr h₀ L h (put (ps c) u) → News h₀ L h (led c) →
      wpAny (model prog w) A (isTrue test env (eval test env)) (fun b s₂ =>
        if b = true then wpAny (model prog w) A (execs body env) (WPost h₀ L s led ps P μ Q c) E s₂ else Q .next s₂) E { s with heap := h, toks := tk })
    (hE : PassesOwn (model prog w) A env E := by passes_own) :
    wpAny (model prog w) A (exec (.While test body [] pos) env) Q E s := by
  refine While_inv2 (fun n m nx => ∃ c : σ, nx = led c ∧ μ c = n ∧ (∀ p ∈ ps c, m p.1 = some p.2) ∧ P c) F (fun p hp => N p (hn p hp)) ⟨c₀, rfl, rfl, hk, hp⟩ ?_ hE
  rintro n m₁ nx h tk F₁ N₁ ⟨c, rfl, rfl, hm, hp'⟩
  rw [← put_same hm] at F₁
  refine wpAny_mono (turn c m₁ h tk hp' F₁ N₁) (fun b s₂ p => ?_) fun _ _ x => x
  cases b with
  | false => simpa using p
  | true =>
    simp only [if_true] at p ⊢
    refine wpAny_mono p (fun f s₃ q => ?_) fun _ _ x => x
    cases f with
    | ret v => exact q
    | brk => exact q
    | next =>
      obtain ⟨c', h', tk', m', news', rfl, F', N', hn, hm, hp9, hm9⟩ := q
      exact ⟨h', tk', m', led c', μ c', rfl, F', fun p hp => N' p (hn p hp), hm9, c', rfl, rfl, hm, hp9⟩
    | cont =>
      obtain ⟨c', h', tk', m', news', rfl, F', N', hn, hm, hp9, hm9⟩ := q
      exact ⟨h', tk', m', led c', μ c', rfl, F', fun p hp => N' p (hn p hp), hm9, c', rfl, rfl, hm, hp9⟩
def WOut {σ : Type} (h₀ : Heap) (L : Addr) (s : Shared) (led : σ → List (Addr × Obj)) (ps : σ → List (PySem.Str × Value)) (X : σ → Prop) (s₂ : Shared) : Prop :=
  ∃ (c' : σ) (h' : Heap) (tk : Nat) (m' : PySem.Str → Option Value) (news' : List (Addr × Obj)), s₂ = { s with heap := h', toks := tk } ∧ Fr h₀ L h' m' ∧ News h₀ L h' news' ∧ (∀ p ∈ led c', p ∈ news') ∧ (∀ p ∈ ps c', m' p.1 = some p.2) ∧ X c'
theorem WOut.intro {σ : Type} {h₀ : Heap} {L : Addr} {s : Shared} {led : σ → List (Addr × Obj)} {ps : σ → List (PySem.Str × Value)} {m' : PySem.Str → Option Value} {X : σ → Prop} {h' : Heap} {tk : Nat} {news' : List (Addr × Obj)} (c' : σ)
    (F : Fr h₀ L h' m') (N : News h₀ L h' news') (hn : ∀ p ∈ led c', p ∈ news') (h1 : ∀ p ∈ ps c', m' p.1 = some p.2) (hx : X c') :
    WOut h₀ L s led ps X { s with heap := h', toks := tk } := ⟨c', h', tk, m', news', rfl, F, N, hn, h1, hx⟩
/-- a while whose ways out meet in one -/
theorem wh2 {prog : Program} {w : World} {A : Around} {E : Value → Shared → Prop} {Q : Flow → Shared → Prop} {s : Shared} {env : Env} {h₀ : Heap} {L : Addr}
    {σ : Type} {test : PySem.Expr} {body : List Stmt} {pos : Pos} {m₀ : PySem.Str → Option Value} {news₀ : List (Addr × Obj)} (led : σ → List (Addr × Obj)) (ps : σ → List (PySem.Str × Value)) (P X : σ → Prop) (μ : σ → Nat) (c₀ : σ)
    (F : Fr h₀ L s.heap m₀) (N : News h₀ L s.heap news₀) (hn : ∀ p ∈ led c₀, p ∈ news₀) (hk : ∀ p ∈ ps c₀, m₀ p.1 = some p.2) (hp : P c₀)
    (turn : ∀ (c : σ) u h tk, P c → Fr h₀ L h (put (ps c) u) → News h₀ L h (led c) →
      wpAny (model prog w) A (isTrue test env (eval test env)) (fun b s₂ =>
        if b = true then wpAny (model prog w) A (execs body env) (WPost h₀ L s led ps P μ (fun f s₃ => f = .next ∧ WOut h₀ L s led ps X s₃) c) E s₂ else WOut h₀ L s led ps X s₂) E { s with heap := h, toks := tk })
    (done : ∀ (c : σ) u h tk, X c → Fr h₀ L h (put (ps c) u) → News h₀ L h (led c) → Q .next { s with heap := h, toks := tk })
    (hE : PassesOwn (model prog w) A env E := by passes_own) :
    wpAny (model prog w) A (exec (.While test body [] pos) env) Q E s := by
  refine wpAny_mono (wh (Q := fun f s₃ => f = .next ∧ WOut h₀ L s led ps X s₃) led ps P μ c₀ F N hn hk hp (fun c u h tk h1 h2 h3 => wpAny_mono (turn c u h tk h1 h2 h3) (fun b s₂ p => ?_) fun _ _ x => x) hE) (fun f s₃ q => ?_) fun _ _ x => x
  · cases b with
    | true => exact p
    | false => exact ⟨rfl, p⟩
  · obtain ⟨rfl, c, h, tk, m', news', rfl, F', N', hn', hm', hx⟩ := q
    rw [← put_same hm'] at F'
    exact done c m' h tk hx F' fun p hp => N' p (hn' p hp)
theorem roomA {d K a R : Nat} (h : d + K < R) (hk : Nat.ble a K = true) : d + a < R := Nat.lt_of_le_of_lt (Nat.add_le_add_left (Nat.le_of_ble_eq_true hk) d) h
theorem roomB {d K a b R : Nat} (h : d + K < R) (hk : Nat.ble (a + b) K = true) : d + a + b < R := by
  rw [Nat.add_assoc]
  exact roomA h hk
theorem room0 {d K R : Nat} (h : d + K < R) : d < R := Nat.lt_of_le_of_lt (Nat.le_add_right _ _) h
theorem all1 {α : Type} {P : α → Prop} {a : α} (h : P a) : ∀ p ∈ [a], P p := fun p hp => by rw [List.mem_singleton.mp hp]; exact h
theorem allc {α : Type} {P : α → Prop} {a : α} {l : List α} (h : P a) (k : ∀ p ∈ l, P p) : ∀ p ∈ a :: l, P p := fun p hp => by
  rcases List.mem_cons.mp hp with rfl | hp
  · exact h
  · exact k p hp
theorem sub_drop {h₀ h : Heap} {L : Addr} {news news' : List (Addr × Obj)} (N : News h₀ L h news') (hs : ∀ p ∈ news, p ∈ news') : News h₀ L h news := fun p hp => N p (hs p hp)
theorem sub_self {α : Type} {l : List α} : ∀ p ∈ l, p ∈ l := fun _ h => h
theorem sub_skip {α : Type} {q : α} {l k : List α} (h : ∀ p ∈ l, p ∈ k) : ∀ p ∈ l, p ∈ q :: k := fun p hp => .tail _ (h p hp)
theorem sub_keep {α : Type} {q : α} {l k : List α} (h : ∀ p ∈ l, p ∈ k) : ∀ p ∈ q :: l, p ∈ q :: k := fun p hp => by
  rcases List.mem_cons.mp hp with rfl | hp
  · exact .head _
  · exact .tail _ (h p hp)
abbrev tupObj (vs : List Value) : Obj := { cls := .type "tuple", data := .seq ⟨vs⟩ }
abbrev lstObj (vs : List Value) (n : Nat) : Obj := { cls := .type "list", data := .seq ⟨vs⟩ n }
theorem tup_end {Out : List (Addr × Obj) → Value → List (Addr × Obj) → Prop} {h₀ : Heap} {L : Addr} {m : PySem.Str → Option Value} {s : Shared} {Q : Value → Shared → Prop} {news rest : List (Addr × Obj)}
    (hret : ∀ (r : Value) (led' : List (Addr × Obj)) (h' : Heap) (tk' : Nat), Out news r led' → Fr h₀ L h' m → News h₀ L h' (led' ++ news) → Q r { s with heap := h', toks := tk' })
    {a : Addr} {vs : List Value} {h' : Heap} {tk' : Nat} (F : Fr h₀ L h' m) (N : News h₀ L h' ((a, tupObj vs) :: rest)) (hs : ∀ p ∈ news, p ∈ rest) (ho : Out news (.ref a) [(a, tupObj vs)]) : Q (.ref a) { s with heap := h', toks := tk' } :=
  hret _ _ _ _ ho F (sub_drop N (sub_keep hs))
theorem toks_any {α : Type} {M : Model} {A : Around} {t : Sem α} {Q : α → Shared → Prop} {E : Value → Shared → Prop} {h : Heap} {g : Array GenState} {d : Drawn} {tk : Nat} {os : OsState} (k : ∀ tk, wpAny M A t Q E ⟨h, g, d, tk, os⟩) : wpAny M A t Q E ⟨h, g, d, tk, os⟩ := k tk
/-- a place where the walk waits -/
def Hold (P : Prop) : Prop := P
theorem Hold.out {P : Prop} (h : Hold P) : P := h
theorem Hold.go {P : Prop} (h : P) : Hold P := h
/-- the plain readings -/
def runEnd (text signs : List Nat) (at_ : Nat) : Nat := at_ + ((text.drop at_).takeWhile (fun c => decide (c ∈ signs))).length
theorem runEnd_stop {text signs : List Nat} {i : Nat} (h : ¬ i < text.length ∨ text.getD i 0 ∉ signs) : runEnd text signs i = i := by
  unfold runEnd
  by_cases hi : i < text.length
  · have h2 := h.resolve_left (fun z => z hi)
    rw [List.drop_eq_getElem_cons hi, List.takeWhile_cons]
    have : text[i] = text.getD i 0 := by simp [List.getD, hi]
    rw [this]
    simp only [h2, decide_false, Bool.false_eq_true, if_false, List.length_nil, Nat.add_zero]
  · rw [List.drop_of_length_le (by omega)]
    simp
theorem runEnd_step {text signs : List Nat} {i : Nat} (hi : i < text.length) (h : text.getD i 0 ∈ signs) : runEnd text signs (i + 1) = runEnd text signs i := by
  unfold runEnd
  rw [List.drop_eq_getElem_cons hi, List.takeWhile_cons]
  have : text[i] = text.getD i 0 := by simp [List.getD, hi]
  rw [this]
  simp only [h, decide_true, if_true, List.length_cons]
  omega
theorem runEnd_le {text signs : List Nat} {i : Nat} (hi : i ≤ text.length) : runEnd text signs i ≤ text.length := by
  unfold runEnd
  have := List.IsPrefix.length_le (List.takeWhile_prefix (fun c => decide (c ∈ signs)) (l := text.drop i))
  rw [List.length_drop] at this
  omega
theorem runEnd_ge {text signs : List Nat} {i : Nat} : i ≤ runEnd text signs i := by unfold runEnd; omega
/-- figures -/
def isFig (bs c : Nat) : Bool := c == 95 || decide (figureWorth c < bs)
def valOf (bs : Nat) (l : List Nat) : Nat := l.foldl (fun v c => if c = 95 then v else v * bs + figureWorth c) 0
def manyOf (l : List Nat) : Nat := (l.filter (fun c => !(c == 95))).length
def figsAt (bs : Nat) (text : List Nat) (a0 : Nat) : List Nat := (text.drop a0).takeWhile (isFig bs)
theorem figs_at {bs : Nat} : ∀ {l : List Nat} {k : Nat}, k ≤ (l.takeWhile (isFig bs)).length →
    (k < (l.takeWhile (isFig bs)).length ↔ k < l.length ∧ isFig bs (l.getD k 0) = true) ∧ (k < (l.takeWhile (isFig bs)).length → (l.takeWhile (isFig bs)).take (k + 1) = (l.takeWhile (isFig bs)).take k ++ [l.getD k 0])
  | [], k, h => by
    have : k = 0 := by simpa using h
    subst this; simp
  | c :: l, k, h => by
    rw [List.takeWhile_cons] at h ⊢
    by_cases hc : isFig bs c = true
    · rw [if_pos hc] at h ⊢
      cases k with
      | zero => simp [hc]
      | succ k =>
        have := figs_at (l := l) (k := k) (by simpa using h)
        simp only [List.length_cons, Nat.add_lt_add_iff_right, List.take_succ_cons, List.cons_append, List.cons.injEq, true_and]
        rw [show (c :: l).getD (k + 1) 0 = l.getD k 0 from by simp]
        exact this
    · rw [if_neg hc] at h ⊢
      have : k = 0 := by simpa using h
      subst this
      simp [hc]
theorem valOf_snoc (bs : Nat) (l : List Nat) (c : Nat) : valOf bs (l ++ [c]) = if c = 95 then valOf bs l else valOf bs l * bs + figureWorth c := by
  unfold valOf; rw [List.foldl_append]; rfl
theorem manyOf_snoc (l : List Nat) (c : Nat) : manyOf (l ++ [c]) = if c = 95 then manyOf l else manyOf l + 1 := by
  unfold manyOf; rw [List.filter_append, List.length_append]
  by_cases h : c = 95
  · subst h; simp
  · simp [h]
theorem valOf_lt {bs : Nat} : ∀ (n : Nat) (l : List Nat), l.length = n → (∀ c ∈ l, isFig bs c = true) → valOf bs l < bs ^ (manyOf l) := by
  intro n
  induction n with
  | zero => intro l h _; rw [List.eq_nil_of_length_eq_zero h]; exact Nat.lt_of_lt_of_eq Nat.zero_lt_one (Nat.pow_zero bs).symm
  | succ n ih =>
    intro l h hf
    have hne : l ≠ [] := fun e => by rw [e] at h; cases h
    have e := List.dropLast_concat_getLast hne
    have hd : l.dropLast.length = n := by rw [List.length_dropLast, h]; rfl
    have hi := ih l.dropLast hd fun c hc => hf c (List.dropLast_subset _ hc)
    have hl := hf _ (List.getLast_mem hne)
    rw [← e, valOf_snoc, manyOf_snoc]
    by_cases hc : l.getLast hne = 95
    · rw [if_pos hc, if_pos hc]; exact hi
    · rw [if_neg hc, if_neg hc]
      have hw : figureWorth (l.getLast hne) < bs := by
        simpa [isFig, hc] using hl
      rw [Nat.pow_succ]
      calc valOf bs l.dropLast * bs + figureWorth (l.getLast hne) < valOf bs l.dropLast * bs + bs := by omega
        _ = (valOf bs l.dropLast + 1) * bs := by rw [Nat.add_mul, Nat.one_mul]
        _ ≤ _ := Nat.mul_le_mul_right _ hi
end
section
/-- an error's record: all but its fields told by `oe`; `fl` is what its traceback says of its flight, if it has one -/
def Tb (B : Heap) (e : Addr) (oe : Obj) (fl : Option Value) (h : Heap) : Prop :=
  ∃ vs, h.get? e = some { oe with data := .fields vs } ∧ match fl with
    | none => vs[1]? = some .none
    | some x => ∃ T oT ts, vs[1]? = some (.ref T) ∧ B.get? T = none ∧ T ≠ e ∧ h.get? T = some oT ∧ oT.data = .fields ts ∧ ts[3]? = some x
theorem mapFields_at {oe : Obj} {vs : Array Value} (f : Array Value → Array Value) : Obj.mapFields f { oe with data := .fields vs } = { oe with data := .fields (f vs) } := rfl
section
variable {M : Model} {A : Around} {E : Value → Shared → Prop} {s : Shared}
theorem entry_any {B : Heap} {env : Env} {outer : List Env} {L e : Addr} {oe : Obj} {vs : Array Value} {head : Value} {hadNext : Bool} {Q : Unit → Shared → Prop}
    (hfr : A.frames = some (env :: outer)) (hl : s.heap.FunFrames B (env :: outer)) (hf : env.frame = some L) (hkb : B.StaysIn s.heap) (hen : B.get? e = none)
    (he : s.heap.get? e = some { oe with data := .fields vs }) (hsz : 1 < vs.size)
    (h : ∀ h', B.StaysIn h' → h'.FunFrames B (env :: outer) → Tb B e oe (some (rawInt L)) h' → s.heap.UpToSlots h' → Q () { s with heap := h' }) :
    wpAny M A (do let a ← frameOf env; let pl ← entryPlaceOf L hadNext; let b ← EntryCells.newEntry head a .none (rawInt L) .none pl; setField (.ref e) 1 b) Q E s := by
  have hene : e ∉ (env :: outer).filterMap (·.frame) := fun hm => by
    obtain ⟨_, o, ho, hnf⟩ := hl.mem hm
    rw [he] at ho; injection ho with ho; subst ho; exact hnf vs rfl
  refine wpAny_bind (wpAny_frameOf_fun hfr hl hf fun h₁ hs₁ => ?_)
  refine wpAny_bind (wpAny_entryPlaceOf fun pl hpl => ?_)
  unfold EntryCells.newEntry newFields
  refine wpAny_bind (wpAny_newObj_type ?_ (hpl.sizeOk5 _ _ _ _ _))
  have he₁ := (hs₁.2.1 e hene).trans he
  have kb₁ : B.StaysIn h₁ := fun b o hbo => (hs₁.2.1 b fun hm => by rw [(hl.mem hm).1] at hbo; cases hbo).trans (hkb b o hbo)
  generalize hO : ({ cls := .type "traceback", dict := none, data := .fields ([head, .ref L, .none, rawInt L, .none] ++ (if pl.isEmpty then List.replicate 6 Value.none else pl)).toArray } : Obj) = O
  have hOd : ∃ ts, O.data = .fields ts ∧ ts[3]? = some (rawInt L) := by
    subst hO
    exact ⟨_, rfl, by simp⟩
  have hOf : O.isFreed = false := by subst hO; rfl
  have he₂ := Heap.get?_push_of_some (h := h₁) O he₁
  refine wpAny_setField he₂ rfl hsz ?_
  have hTe : h₁.objs.size ≠ e := Nat.ne_of_gt (Heap.lt_size he₁)
  have he₃ := Heap.get?_update_self (Obj.mapFields (·.setIfInBounds 1 (Value.ref h₁.objs.size))) he₂ rfl
  have hT₃ := (Heap.get?_update_other (h₁.push O) (Obj.mapFields (·.setIfInBounds 1 (Value.ref h₁.objs.size))) (Ne.symm hTe)).trans (Heap.get?_push_size h₁ hOf)
  have keep : ∀ b o, b ≠ e → h₁.get? b = some o → ((h₁.push O).update e (Obj.mapFields (·.setIfInBounds 1 (Value.ref h₁.objs.size)))).get? b = some o := fun b o hbe hb => by
    rw [Heap.get?_update_other _ _ (Ne.symm hbe)]
    exact Heap.get?_push_of_some _ hb
  have noRecord : ∀ b o, s.heap.get? b = some o → (∀ vs, o.data ≠ .fields vs) → b ≠ e := fun b o hb hnf q => by
    rw [q, he] at hb; injection hb with hb; subst hb; exact hnf vs rfl
  obtain ⟨ts, hts, hts3⟩ := hOd
  refine h _ (fun b o hbo => keep b o (fun q => by rw [q, hen] at hbo; cases hbo) (kb₁ b o hbo)) (hl.of_keeps fun b o hb hnf => ?_) ⟨_, he₃, h₁.objs.size, O, ts, ?_, kb₁.fresh, hTe, hT₃, hts, hts3⟩ fun b o hb hnf => ?_
  · obtain ⟨sl, hs⟩ := hs₁.2.2 b o hb
    exact ⟨_, keep b _ (noRecord b o hb hnf) hs, rfl⟩
  · simp [hsz]
  · obtain ⟨sl, hs⟩ := hs₁.2.2 b o hb
    exact ⟨sl, keep b _ (noRecord b o hb hnf) hs⟩
theorem note_any {B : Heap} {env : Env} {outer : List Env} {L e : Addr} {oe : Obj} {Q : Unit → Shared → Prop}
    (hfr : A.frames = some (env :: outer)) (hl : s.heap.FunFrames B (env :: outer)) (hf : env.frame = some L) (hkb : B.StaysIn s.heap) (hen : B.get? e = none)
    (ht : Tb B e oe none s.heap ∨ Tb B e oe (some .none) s.heap)
    (h : ∀ h', B.StaysIn h' → h'.FunFrames B (env :: outer) → Tb B e oe (some (rawInt L)) h' → s.heap.UpToSlots h' → Q () { s with heap := h' }) :
    wpAny M A (noteFrame (.ref e) env) Q E s := by
  unfold noteFrame
  simp only [hf]
  rcases ht with ⟨vs, he, h1⟩ | ⟨vs, he, T, oT, ts, h1, hnT, hTe, hT, hdT, h3⟩
  · refine wpAny_bind (wpAny_field he rfl h1 ?_)
    rw [if_neg (by decide)]
    exact entry_any hfr hl hf hkb hen he (Array.getElem?_eq_some_iff.mp h1).1 h
  · refine wpAny_bind (wpAny_field he rfl h1 ?_)
    rw [if_pos (show (Value.ref T != Value.none) = true from by simp)]
    refine wpAny_bind (wpAny_field hT hdT h3 ?_)
    rw [if_neg (show ¬ ((Value.none == rawInt L) = true) from by simp [rawInt])]
    refine wpAny_bind (wpAny_setField hT hdT (Array.getElem?_eq_some_iff.mp h3).1 ?_)
    have other : ∀ b, b ≠ T → (s.heap.update T (Obj.mapFields (·.setIfInBounds 3 Value.none))).get? b = s.heap.get? b := fun b hb => Heap.get?_update_other _ _ (Ne.symm hb)
    have noRecord : ∀ b o, s.heap.get? b = some o → (∀ vs, o.data ≠ .fields vs) → b ≠ T := fun b o hb hnf q => by
      rw [q, hT] at hb; injection hb with hb; subst hb; exact hnf ts hdT
    exact entry_any hfr (hl.of_keeps fun b o hb hnf => ⟨o, (other b (noRecord b o hb hnf)).trans hb, rfl⟩) hf
      (fun b o hbo => (other b fun q => by rw [q, hnT] at hbo; cases hbo).trans (hkb b o hbo)) hen ((other e (Ne.symm hTe)).trans he) (Array.getElem?_eq_some_iff.mp h1).1
      fun h' x1 x2 x3 x4 => h h' x1 x2 x3 fun b o hb hnf => x4 b o ((other b (noRecord b o hb hnf)).trans hb) hnf
theorem flight_any {B : Heap} {l : List Env} {e : Addr} {oe : Obj} {x : Value} {Q : Unit → Shared → Prop}
    (hl : s.heap.FunFrames B l) (hkb : B.StaysIn s.heap) (ht : Tb B e oe (some x) s.heap)
    (h : ∀ h', B.StaysIn h' → h'.FunFrames B l → Tb B e oe (some .none) h' → s.heap.UpToSlots h' → Q () { s with heap := h' }) :
    wpAny M A (setFlight (.ref e) none) Q E s := by
  obtain ⟨vs, he, T, oT, ts, h1, hnT, hTe, hT, hdT, h3⟩ := ht
  have hsz3 : 3 < ts.size := (Array.getElem?_eq_some_iff.mp h3).1
  have other : ∀ b, b ≠ T → (s.heap.update T (Obj.mapFields (·.setIfInBounds 3 ((none : Option Addr).elim Value.none fun f => rawInt f)))).get? b = s.heap.get? b :=
    fun b hb => Heap.get?_update_other _ _ (Ne.symm hb)
  have noRecord : ∀ b o, s.heap.get? b = some o → (∀ vs, o.data ≠ .fields vs) → b ≠ T := fun b o hb hnf q => by
    rw [q, hT] at hb; injection hb with hb; subst hb; exact hnf ts hdT
  unfold setFlight
  refine wpAny_bind (wpAny_field he rfl h1 ?_)
  rw [if_pos (show (Value.ref T != Value.none) = true from by simp)]
  refine wpAny_setField hT hdT hsz3 (h _ (fun b o hbo => (other b fun q => by rw [q, hnT] at hbo; cases hbo).trans (hkb b o hbo))
    (hl.of_keeps fun b o hb hnf => ⟨o, (other b (noRecord b o hb hnf)).trans hb, rfl⟩) ?_ fun b o hb hnf => ⟨o.slots, (other b (noRecord b o hb hnf)).trans hb⟩)
  exact ⟨vs, (other e (Ne.symm hTe)).trans he, T, _, _, h1, hnT, hTe, Heap.get?_update_self _ hT (Obj.isFreed_of_fields (Obj.data_mapFields hdT _)), Obj.data_mapFields hdT _, by simp [hsz3]⟩
/-- an error in flight: `B` stays, the frames of `l` may change their slots -/
structure Fly (B : Heap) (l : List Env) (e : Addr) (oe : Obj) (fl : Option Value) (h : Heap) : Prop where
  stays : B.StaysIn h
  new : B.get? e = none
  frames : h.FunFrames B l
  tb : Tb B e oe fl h
theorem Fly.tail {B : Heap} {env : Env} {l : List Env} {e : Addr} {oe : Obj} {fl : Option Value} {h : Heap} (x : Fly B (env :: l) e oe fl h) : Fly B l e oe fl h := ⟨x.stays, x.new, x.frames.2.2, x.tb⟩
theorem note_fly {B : Heap} {env : Env} {outer : List Env} {L e : Addr} {oe : Obj} {fl : Option Value} {Q : Unit → Shared → Prop}
    (hfr : A.frames = some (env :: outer)) (hf : env.frame = some L) (hh : Fly B (env :: outer) e oe fl s.heap) (hfl : fl = none ∨ fl = some .none)
    (h : ∀ h', Fly B (env :: outer) e oe (some (rawInt L)) h' → s.heap.UpToSlots h' → Q () { s with heap := h' }) :
    wpAny M A (noteFrame (.ref e) env) Q E s := by
  refine note_any hfr hh.frames hf hh.stays hh.new (oe := oe) ?_ fun h' x1 x2 x3 x4 => h h' ⟨x1, hh.new, x2, x3⟩ x4
  rcases hfl with rfl | rfl
  · exact .inl hh.tb
  · exact .inr hh.tb
theorem flight_fly {B : Heap} {l : List Env} {e : Addr} {oe : Obj} {x : Value} {Q : Unit → Shared → Prop} (hh : Fly B l e oe (some x) s.heap)
    (h : ∀ h', Fly B l e oe (some .none) h' → s.heap.UpToSlots h' → Q () { s with heap := h' }) :
    wpAny M A (setFlight (.ref e) none) Q E s :=
  flight_any hh.frames hh.stays hh.tb fun h' x1 x2 x3 x4 => h h' ⟨x1, hh.new, x2, x3⟩ x4
theorem leave_fly {B : Heap} {env : Env} {outer : List Env} {L e : Addr} {oe : Obj} {fl : Option Value} {Q : Unit → Shared → Prop}
    (hfr : A.frames = some (env :: outer)) (hf : env.frame = some L) (hh : Fly B (env :: outer) e oe fl s.heap) (hfl : fl = none ∨ fl = some .none)
    (h : ∀ h', Fly B outer e oe (some .none) h' → s.heap.UpToSlots h' → Q () { s with heap := h' }) :
    wpAny M A (leaving env (.ref e)) Q E s := by
  unfold leaving
  refine wpAny_bind (note_fly hfr hf hh hfl fun h₁ x1 x2 => ?_)
  exact flight_fly x1 fun h₂ y1 y2 => h h₂ y1.tail (x2.trans y2)
end
/-- where an error's place stands: in its dict -/
def SpotAt (d : Addr) (spot : Nat) (ts : Tok) (h : Heap) : Prop := ∃ od, h.get? d = some od ∧ lookIn (Str.ofString "spot") od = some (some (.int spot ts)) ∧ ∃ es n, od.data = .dict es n
theorem SpotAt.up {d : Addr} {spot : Nat} {ts : Tok} {h h' : Heap} (x : SpotAt d spot ts h) (k : h.UpToSlots h') : SpotAt d spot ts h' := by
  obtain ⟨od, h1, h2, es, n, h3⟩ := x
  obtain ⟨sl, hs⟩ := k d od h1 (fun vs q => by rw [h3] at q; cases q)
  exact ⟨_, hs, h2, es, n, h3⟩
abbrev errObj (C d : Addr) : Obj := { cls := .ref C, dict := some d, data := .fields #[] }
/-- an error thrown below a call: `G` is the caller's ground -/
def Thrown (base G : Heap) (l : List Env) (C : Addr) (spot : Nat) (e : Addr) (news : List (Addr × Obj)) (h : Heap) : Prop :=
  ∃ B d ts, base.StaysIn B ∧ (∀ b o, G.get? b = some o → b ∉ l.filterMap (·.frame) → B.get? b = some o) ∧ (∀ q ∈ news, B.get? q.1 = some q.2 ∧ G.get? q.1 = none) ∧ Fly B l e (errObj C d) (some .none) h ∧ B.get? d = none ∧ d ≠ e ∧ d ∉ l.filterMap (·.frame) ∧ SpotAt d spot ts h
theorem frames_rebase {h base base' : Heap} : ∀ {l : List Env}, h.FunFrames base l → (∀ b ∈ l.filterMap (·.frame), base'.get? b = none) → h.FunFrames base' l
  | [], _, _ => trivial
  | env :: l, ⟨hk, ⟨L, o, hf, _, ho, hd⟩, hr⟩, hb => ⟨hk, ⟨L, o, hf, hb L (List.mem_filterMap.mpr ⟨env, .head _, hf⟩), ho, hd⟩, frames_rebase hr fun b hm => hb b (by
      rw [List.filterMap_cons, hf]
      exact .tail _ hm)⟩
theorem env_mem {env : Env} {outer : List Env} {L b : Addr} (hf : env.frame = some L) (hm : b ∈ (env :: outer).filterMap (·.frame)) : b = L ∨ b ∈ outer.filterMap (·.frame) := by
  rw [List.filterMap_cons, hf] at hm
  exact List.mem_cons.mp hm
/-- a fresh error of the text's own, with its place -/
def ErrAt (C : Addr) (spot : Nat) (ts : Tok) (e d : Addr) (H h : Heap) : Prop :=
  ∃ a0, h.get? e = some { cls := .ref C, dict := some d, data := .fields #[a0, .none, .none, .none, .bool false, .none] } ∧ H.get? e = none ∧ H.get? d = none ∧ d ≠ e ∧ SpotAt d spot ts h
section
variable {M : Model} {A : Around} {E : Value → Shared → Prop} {s' : Shared} {base g g₂ h : Heap} {outer : List Env} {env : Env} {L e C : Addr} {spot : Nat} {m : Str → Option Value} {Q : Unit → Shared → Prop} {news news' : List (Addr × Obj)}
theorem thrown_leave (K : Below A base outer g) (F : Fr g L g₂ m) (R : Thrown base g₂ (env :: outer) C spot e news' s'.heap) (hsm : g₂.UpToSlots s'.heap) (hs : ∀ q ∈ news, q ∈ news') (hf : env.frame = some L)
    (hQ : ∀ h', Thrown base g outer C spot e news h' → g.UpToSlots h' → Q () { s' with heap := h' }) :
    wpAny M (A.deeper env) (leaving env (.ref e)) Q E s' := by
  obtain ⟨B, d, ts, hB, hBG, hl, hfly, hd, hde, hdl, hsp⟩ := R
  exact leave_fly (Around.frames_deeper K.stack) hf hfly (.inr rfl) fun h' x1 x2 => hQ h' ⟨B, d, ts, hB, fun b o q nm => hBG b o (F.keep b o q) (fun hm => by
      rcases env_mem hf hm with z | z
      · rw [z, kts_self F] at q
        cases q
      · exact nm z), fun q hq => ⟨(hl q (hs q hq)).1, kts_none F.keep (hl q (hs q hq)).2⟩, x1, hd, hde, (fun hm => hdl (by rw [List.filterMap_cons, hf]; exact .tail _ hm)), hsp.up x2⟩ ((Heap.UpToSlots.of_keeps F.keep).trans (hsm.trans x2))
/-- an error just raised in this frame, on its way out -/
theorem thrown_raise {d : Addr} {ts : Tok} {m' : Str → Option Value} (K : Below A base outer g) (F : Fr g L h m) (N : News g L h news) (hk : ∀ b o, b ≠ L → h.get? b = some o → s'.heap.get? b = some o) (F' : Fr g L s'.heap m')
    (he : ErrAt C spot ts e d h s'.heap) (hf : env.frame = some L) (hkf : env.scope.kind = .function)
    (hQ : ∀ h', Thrown base g outer C spot e news h' → g.UpToSlots h' → Q () { s' with heap := h' }) :
    wpAny M (A.deeper env) (leaving env (.ref e)) Q E s' := by
  obtain ⟨a0, he1, hen, hdn, hde, hsp⟩ := he
  have hst : (A.deeper env).frames = some (env :: outer) := Around.frames_deeper K.stack
  have nL : base.get? L = none := fresh_of_stays K.stays (kts_self F)
  have st : base.StaysIn (hideAll h ((env :: outer).filterMap (·.frame))) := fun b o q => hideAll_get _ (F.keep _ _ (K.stays b o q)) fun hm => by
    rcases env_mem hf hm with z | z
    · rw [z, nL] at q; cases q
    · rw [(K.frames.mem z).1] at q; cases q
  have sg : ∀ b o, g.get? b = some o → b ∉ outer.filterMap (·.frame) → (hideAll h ((env :: outer).filterMap (·.frame))).get? b = some o := fun b o q nm => hideAll_get _ (F.keep b o q) fun hm => by
    rcases env_mem hf hm with z | z
    · rw [z, kts_self F] at q
      cases q
    · exact nm z
  have hl : ∀ q ∈ news, (hideAll h ((env :: outer).filterMap (·.frame))).get? q.1 = some q.2 ∧ g.get? q.1 = none := fun q hq => by
    refine ⟨hideAll_get _ (N q hq).1 fun hm => ?_, (N q hq).2.2⟩
    rcases env_mem hf hm with z | z
    · exact (N q hq).2.1 z
    · obtain ⟨_, o, ho, _⟩ := K.frames.mem z
      rw [(N q hq).2.2] at ho; cases ho
  have hfr : s'.heap.FunFrames base (env :: outer) := Heap.FunFrames.cons (by rw [hkf]; decide) hf F'.ns nL (K.frames.of_keeps fun b o hb _ => ⟨o, F'.keep b o hb, rfl⟩)
  have hb : ∀ b, h.get? b = none → (hideAll h ((env :: outer).filterMap (·.frame))).get? b = none := fun b hn => by
    cases q : (hideAll h ((env :: outer).filterMap (·.frame))).get? b with
    | none => rfl
    | some o => rw [of_hideAll _ q] at hn; cases hn
  refine leave_fly (oe := errObj C d) (fl := none) hst hf ⟨fun b o q => hk b o (fun z => ?_) (of_hideAll _ q), hb e hen, frames_rebase hfr fun b hm => hideAll_none _ hm, _, he1, rfl⟩ (.inl rfl) fun h' x1 x2 =>
    hQ h' ⟨_, d, ts, st, sg, hl, x1, hb d hdn, hde, (fun hm => by
      obtain ⟨_, o, ho, _⟩ := K.frames.mem hm
      have := F.keep _ _ ho
      rw [hdn] at this; cases this), hsp.up x2⟩ ((Heap.UpToSlots.of_keeps F'.keep).trans x2)
  have hm : b ∈ (env :: outer).filterMap (·.frame) := List.mem_filterMap.mpr ⟨env, .head _, by rw [hf, z]⟩
  rw [hideAll_none _ hm] at q
  cases q
end
/-- what a call of a def of the text's says that may throw: `Thr` tells with which class and place -/
def SaysX (w : World) (dn un' : Nat) (f : Addr) (vs : List Value) (led : List (Addr × Obj)) (Out : List (Addr × Obj) → Value → List (Addr × Obj) → Prop) (Thr : Addr → Nat → Prop) : Prop :=
  ∀ {loose : List Str} {mean : ExcName → Option Value} {mg mb : Str → Option Value} {dp un : Nat} {gd : Option (List Code)} {cn : Str} {cs : Scope} {a : Addr} {ccd : Value} {cl : List (Str × Addr)} {outer : List Env} {A₀ : Around} {base h₀ : Heap} {L : Addr} {m : Str → Option Value} {s : Shared} {Q E : Value → Shared → Prop} {news : List (Addr × Obj)},
   Below A₀ base outer h₀ → Fr h₀ L s.heap m → (hd.heap_39 w.params).In h₀ → News h₀ L s.heap (led ++ news) → Top topProg loose mean mg mb h₀ → cs.kind = .function →
   dp + dn < recursionLimit → un + un' < cLine → (∀ p ∈ led, ∀ q ∈ news, q.1 ≠ p.1) →
   (∀ (r : Value) (led' : List (Addr × Obj)) (h' : Heap) (tk' : Nat), Out news r led' → Fr h₀ L h' m → News h₀ L h' (led' ++ news) → Q r { s with heap := h', toks := tk' }) →
   (∀ (C : Addr) (spot : Nat) (e : Addr) (G h' : Heap) (tk' : Nat), Thr C spot → Fr h₀ L G m → Thrown base G (envX cn cs L a ccd cl :: outer) C spot e (led ++ news) h' → G.UpToSlots h' → E (.ref e) { s with heap := h', toks := tk' }) →
   wpAny (model PySem.Challenge.pw_pf0162_01 w) (ktrTop dp un gd cn cs L a ccd cl outer) (call (.ref f) vs) Q E s
end
theorem seedFrag : PySem.Challenge.rw_pf0162_01 = PySem.Challenge.rw_pf0162_01 ∧ hd.heap_39 = hd.heap_39 := by
  k_fill; exact ⟨rfl, rfl⟩
local macro_rules | `(tactic| walk_at "conj") => do let t ← (List.range 12).foldlM (init := (← `(tactic| with_reducible assumption))) (fun t _ => `(tactic| first | with_reducible assumption | exact And.right (by $t:tactic) | fail)); `(tactic| first | $t:tactic | exact And.left (by $t:tactic) | fail)
local macro_rules | `(tactic| walk_at "lt0") => `(tactic| first | walk_at "conj" | (refine' Nat.lt_trans ?_ (by with_reducible assumption); walk_at "conj") | (refine' Nat.lt_trans ?_ (by with_reducible assumption); refine' Nat.lt_trans ?_ (by with_reducible assumption); walk_at "conj"))
local macro_rules | `(tactic| walk_at "ne") => `(tactic| first | exact Nat.ne_of_beq_eq_false rfl | (refine' Nat.ne_of_lt ?_; walk_at "lt0") | (refine' Nat.ne_of_gt ?_; walk_at "lt0") | exact Nat.ne_of_lt (Nat.lt_succ_self _) | exact Nat.ne_of_gt (Nat.lt_succ_self _) | (refine' Nat.ne_of_lt (Nat.lt_succ_of_lt ?_); walk_at "lt0") | (refine' Nat.ne_of_gt (Nat.lt_succ_of_lt ?_); walk_at "lt0") | (refine' Nat.ne_of_lt (Nat.lt_succ_of_lt (Nat.lt_succ_of_lt ?_)); walk_at "lt0") | (refine' Nat.ne_of_gt (Nat.lt_succ_of_lt (Nat.lt_succ_of_lt ?_)); walk_at "lt0"))
local macro_rules | `(tactic| k_ne) => `(tactic| (refine neN ?_; (try dsimp only); walk_at "ne"))
local macro_rules | `(tactic| ktr_room) => `(tactic| first | (refine' roomB (by assumption) ?_; exact rfl) | (refine' roomA (by assumption) ?_; exact rfl) | exact room0 (by assumption) | exact Nat.le_of_ble_eq_true rfl)
local macro_rules | `(tactic| ktr_units) => `(tactic| ktr_room)
local macro_rules | `(tactic| size_fits) => `(tactic| (simp only [PySem.sizeLine_eq]; exact Nat.le_of_ble_eq_true rfl))
local macro_rules | `(tactic| k_in) => `(tactic| first | with_reducible assumption | exact Frag.In.keeps (by k_asm) (Fr.keep (by k_asm)))
local macro_rules | `(tactic| walk_at "tn") => `(tactic| first | exact tn0 _ | exact tn1 _ | exact tn2 _ | exact tnk _ _ | exact tni _) | `(tactic| walk_at "ao") => `(tactic| first | assumption | omega) | `(tactic| walk_at "ra") => `(tactic| first | exact rfl | assumption) | `(tactic| walk_at "kd") => `(tactic| first | ktr_room | omega)
local macro_rules | `(tactic| walk_at "om") => `(tactic| first | with_reducible assumption | exact Nat.le_of_ble_eq_true rfl | (refine' Nat.le_trans (by with_reducible assumption) ?_; exact Nat.le_of_ble_eq_true rfl) | (refine' Nat.le_trans (Nat.le_of_eq (by with_reducible assumption)) ?_; exact Nat.le_of_ble_eq_true rfl) | (refine' Nat.le_trans (Nat.le_of_lt (by with_reducible assumption)) ?_; exact Nat.le_of_ble_eq_true rfl) | omega)
local macro_rules | `(tactic| walk_at "ad") => `(tactic| first | walk_at "ne" | walk_at "lt0" | omega)
local macro_rules | `(tactic| walk_at "call builtin:len") => `(tactic| ((with_reducible show wpAny _ _ (call (Value.builtin "len") [Value.str (S _) _]) _ _ _); (refine r_len (by walk_at "ao") ?_); intro _ _))
local macro_rules | `(tactic| walk_at "compareOp Eq str str") => `(tactic| ((with_reducible show wpAny _ _ (compareOp CmpOp.Eq (Value.str (S _) _) (Value.str (S _) _)) _ _ _); refine r_eq ?_))
local macro_rules | `(tactic| walk_at "compareOp NotEq str str") => `(tactic| ((with_reducible show wpAny _ _ (compareOp CmpOp.NotEq (Value.str (S _) _) (Value.str (S _) _)) _ _ _); refine r_ne ?_))
local macro_rules | `(tactic| walk_at "compareOp In str str") => `(tactic| ((with_reducible show wpAny _ _ (compareOp CmpOp.In (Value.str (S [_]) _) (Value.str (S _) _)) _ _ _); refine r_in ?_))
local macro_rules | `(tactic| walk_at "subscriptTail Name Name str int") => `(tactic| ((with_reducible show wpAny _ _ (subscriptTail _ _ (Value.str (S _) _) (Value.int _ _)) _ _ _); (refine r_item (by walk_at "tn") (by walk_at "ao") (by walk_at "ao") (by walk_at "ao") ?_); intro _ _))
local macro_rules | `(tactic| walk_at "call builtin:str.lower") => `(tactic| ((show wpAny _ _ (call (Value.builtin "str.lower") [Value.str (S [_]) _]) _ _ _); (refine r_lower1 (by walk_at "ao") ?_); intro _ _))
local macro_rules | `(tactic| walk_at "call builtin:str.find") => `(tactic| ((show wpAny _ _ (call (Value.builtin "str.find") [Value.str (PySem.Str.ofString "0123456789abcdef") _, Value.str (S [lowC _]) _]) _ _ _); (refine r_find_hex (by walk_at "ao") ?_); intro _ _))
local macro_rules | `(tactic| walk_at "subscriptTail Name Slice str ref") => `(tactic| ((with_reducible rename Fr _ _ _ _ => F'); (with_reducible rename News _ _ _ _ => N'); first | ((with_reducible show wpAny _ _ (subscriptTail _ (Expr.Slice (some _) (some _) none _) (Value.str (S _) _) (Value.ref _)) _ _ _); (refine r_slice_ss (s := ⟨_, _, _, _, _⟩) (by walk_at "tn") (by walk_at "tn") (by first | exact Nat.add_sub_cancel_left _ _ | exact rfl) F' N' (by walk_at "om") (by walk_at "om") (by walk_at "ao") ?_); intro _ _ _ _ _) | ((with_reducible show wpAny _ _ (subscriptTail _ (Expr.Slice none _ none _) (Value.str (S _) _) (Value.ref _)) _ _ _); (refine r_slice_ns (s := ⟨_, _, _, _, _⟩) (by walk_at "tn") F' N' (by walk_at "om") (by walk_at "ao") ?_); intro _ _ _ _ _) | ((with_reducible show wpAny _ _ (subscriptTail _ (Expr.Slice _ none none _) (Value.str (S _) _) (Value.ref _)) _ _ _); (refine r_slice_sn (s := ⟨_, _, _, _, _⟩) (by walk_at "tn") F' N' (by walk_at "om") (by walk_at "ao") ?_); intro _ _ _ _ _)))
local macro_rules | `(tactic| walk_at "WPost") => `(tactic| dsimp only [WPost])
local macro_rules | `(tactic| walk_at "call ref") => do let t ← [83, 52, 64, 111, 118, 90, 125, 132, 200, 161, 218, 225, 253, 232, 197, 239, 246, 139, 168, 190, 260, 211, 267].foldlM (init := (← `(tactic| fail))) (fun t n => `(tactic| first | $t:tactic | with_reducible show wpAny _ _ (call (Value.ref $(Lean.quote n)) _) _ _ _)); `(tactic| ($t:tactic; refine Hold.out ?_))
local macro_rules | `(tactic| walk_at $k:str) => if ["exec While Compare cons nil", "exec While BoolOp cons nil", "exec While BoolOp cons cons nil", "exec While", "exec While Compare"].contains k.getString then `(tactic| refine Hold.out ?_) else Lean.Macro.throwUnsupported
section
section
variable {prog : Program} {w : World} {A : Around} {E : Value → Shared → Prop} {h : Heap} {g : Array GenState} {d : Drawn} {t : Nat} {os : OsState}
variable {nm q : Str} {C N : Addr} {bs bm bmB : List Value} {hdct : Bool} {sn : List Str} {sub : List Value} {ab : Bool} {col : Option Bool} {dd : Option Addr} {k0 k1 k2 k3 k5 : Option Value} {B newId initId : String}
theorem check_new_own {M : Model} (F : ExcBaseFacts B newId initId bmB) (hB : bm.contains (.type B) = true) {rest : List Value} {Q : Unit → Shared → Prop} (hC : h.get? C = some (excClassObj nm q C N bs bm hdct sn sub ab col dd k0 k1 k2 k3 k5 newId))
    (hq : Q () ⟨h, g, d, t, os⟩) : wpAny M A (checkBuiltinCall newId ⟨.ref C :: rest, []⟩) Q E ⟨h, g, d, t, os⟩ := by
  have hcont : (Value.ref C :: bm).contains (.type B) = true := by rw [List.contains_cons, hB, Bool.or_true]
  have hstar := F.noStar
  simp only [checkBuiltinCall, F.newKind, F.newSplit, F.newRow]
  repeat (first | refine wpAny_loadPart_at hC ?_ | (refine wpAny_isSubtype_exc hC ?_; rw [hcont]) | refine wpAny_staticBase_exc hC ?_ | refine wpAny_madeBy_exc hC ?_ | simp only [bne_self_eq_false, Bool.false_eq_true, if_false] | wp_step)
  exact hq
theorem exc_new_own {R : Result → Shared → Prop} (F : ExcBaseFacts B newId initId bmB) (hB : bm.contains (.type B) = true) (hA : bm.contains (.type "AttributeError") = false) (hN : bm.contains (.type "NameError") = false) {rest : List Value}
    (hC : h.get? C = some (excClassObj nm q C N bs bm hdct sn sub ab col dd k0 k1 k2 k3 k5 newId))
    (hq : R (.ok (.ret (.ref (h.objs.size + 1)))) ⟨(h.push { cls := .type "tuple", data := .seq rest.toArray }).push
      { cls := .ref C, data := .fields #[.ref h.objs.size, .none, .none, .none, .bool false, .none] }, g, d, t, os⟩) (hrest : rest.length ≤ sizeLine) :
    codeAny (model prog w) A (.builtin newId ⟨.ref C :: rest, []⟩) R ⟨h, g, d, t, os⟩ := by
  have hends := F.ends
  have hcB : (Value.ref C :: bm).contains (.type B) = true := by rw [List.contains_cons, hB, Bool.or_true]
  have hcA : (Value.ref C :: bm).contains (.type "AttributeError") = false := by rw [List.contains_cons, hA]; rfl
  have hcN : (Value.ref C :: bm).contains (.type "NameError") = false := by rw [List.contains_cons, hN]; rfl
  refine codeAny_builtinAt F.entry ?_
  unfold Builtin.«BaseException.__new__»
  refine PySem.wpAt_bind ?_
  show PySem.wpAt _ _ _ (stack >>= _) _ _ _
  refine PySem.wpAt_bind (PySem.wpAt_stack fun p below => PySem.wpAt_of_wpAny ?_)
  wp_walk
  refine PySem.wpAt_of_wpAny ?_
  rw [F.owner]
  repeat (first | with_reducible refine wpAny_madeHere_exc F.canon hC ?_ | with_reducible refine wpAny_loadPart_at hC ?_ | (with_reducible refine wpAny_isSubtype_exc hC ?_; first | rw [hcB] | rw [hcA] | rw [hcN]) | wp_step)
  show R _ _
  rw [Heap.size_push]
  exact hq
theorem type_call_own (F : ExcBaseFacts B newId initId bmB) (hB : bm.contains (.type B) = true) (hA : bm.contains (.type "AttributeError") = false) (hN : bm.contains (.type "NameError") = false) {rest : List Value} {fI : Addr} {oI : Obj} {Q : Fin → Shared → Prop}
    (hC : h.get? C = some (excClassObj nm q C N bs bm hdct sn sub ab col dd k0 k1 k2 k3 k5 newId)) (hi : Looks (model prog w) h (typeLookup (.ref C) "__init__") (some (.ref fI)))
    (hfI : h.get? fI = some oI) (hfc : oI.cls = .type "function")
    (hq : ∀ h' e, Heap.MadeExcOf h h' e (.ref C) rest →
      wpAny (model prog w) A (call (.ref fI) (.ref e :: rest)) (fun r s' => r = .none ∧ Q (.done (.ret (.ref e))) s') E ⟨h', g, d, t, os⟩) (hrest : rest.length ≤ sizeLine) :
    wpAny (model prog w) A (Builtin.«type.__call__» ⟨.ref C :: rest, []⟩) Q E ⟨h, g, d, t, os⟩ := by
  repeat (first | with_reducible refine wpAny_loadPart_at hC ?_ | with_reducible refine wpAny_madeBy_exc hC ?_ | wp_step)
  refine codeAny_call_builtin_code (Code.quiet_builtin _ F.quiet) (check_new_own F hB hC ?_)
  refine exc_new_own F hB hA hN hC ?_ hrest
  show wpAny _ _ _ _ _ _
  have k : ∀ b o, h.get? b = some o → ((h.push { cls := .type "tuple", data := .seq rest.toArray }).push { cls := .ref C, data := .fields #[.ref h.objs.size, .none, .none, .none, .bool false, .none] }).get? b = some o :=
    fun b o e => Heap.get?_push_of_some _ (Heap.get?_push_of_some _ e)
  have hC₁ := k _ _ hC
  have hfI₁ := k _ _ hfI
  have hget : ((h.push { cls := .type "tuple", data := .seq rest.toArray }).push
      { cls := .ref C, data := .fields #[.ref h.objs.size, .none, .none, .none, .bool false, .none] }).get? (h.objs.size + 1) = some
      { cls := .ref C, data := .fields #[.ref h.objs.size, .none, .none, .none, .bool false, .none] } := by heap_get
  have hcC : (Value.ref C :: bm).contains (.ref C) = true := by simp
  unfold isInstance
  repeat (first | with_reducible refine wpAny_loadPart_at hget ?_ | (with_reducible refine wpAny_isSubtype_exc hC₁ ?_; rw [hcC]) | wp_step)
  show wpAny _ _ (typeLookup (.ref C) _) _ _ _
  refine Looks.at (hi.keeps k) ?_
  refine wpAny_holding (wpAny_bind ?_)
  unfold bindSpecial
  refine wpAny_bind (wpAny_typeOf (T := "function") ⟨_, hfI₁, hfc⟩ ?_)
  rw [if_pos (by decide)]
  refine wpAny_pure (wpAny_bind (wpAny_mono (hq _ (h.objs.size + 1) ⟨k, Heap.get?_none_of_le (Nat.le_succ _), h.objs.size, hget, Heap.get?_none_of_le (Nat.le_refl _), ?_⟩) (fun r s' hr => ?_) fun _ _ x => x))
  · exact Heap.get?_push_of_some _ (Heap.get?_push_at rfl rfl)
  · obtain ⟨rfl, hQ⟩ := hr
    wp_walk
    exact hQ
theorem call_exc_own (F : ExcBaseFacts B newId initId bmB) (hB : bm.contains (.type B) = true) (hA : bm.contains (.type "AttributeError") = false) (hN : bm.contains (.type "NameError") = false) {rest : List Value} {fI : Addr} {oI : Obj} {Q : Value → Shared → Prop}
    (hC : h.get? C = some (excClassObj nm q C N bs bm hdct sn sub ab col dd k0 k1 k2 k3 k5 newId)) (hi : Looks (model prog w) h (typeLookup (.ref C) "__init__") (some (.ref fI)))
    (hfI : h.get? fI = some oI) (hfc : oI.cls = .type "function") (hrest : rest.length ≤ sizeLine)
    (hq : ∀ h' e, Heap.MadeExcOf h h' e (.ref C) rest →
      wpAny (model prog w) (A.under (.builtin "type.__call__" ⟨.ref C :: rest, []⟩)) (call (.ref fI) (.ref e :: rest)) (fun r s' => r = .none ∧ Q (.ref e) s') E ⟨h', g, d, t, os⟩) :
    wpAny (model prog w) A (call (.ref C) rest) Q E ⟨h, g, d, t, os⟩ := by
  have f1 := tc_lookup
  have f2 := tc_bind (.ref C)
  have hT : (⟨h, g, d, t, os⟩ : Shared).TypeIs (.ref C) "type" := ⟨_, hC, rfl⟩
  refine wpAny_call (codeAny_of_tree ?_)
  show wpAny _ _ (callAny (.ref C) _) _ _ _
  repeat (any_goals (first | assumption | with_reducible refine wpAny_loadPart_at hC ?_ | wp_step))
  refine ⟨rfl, ?_⟩
  refine codeAny_call_builtin_at (Code.quiet_builtin _ (by decide +kernel)) entry_typeCall (wpAny_check_type_call_sub hC (type_call_own F hB hA hN hC hi hfI hfc (fun h' e hm => ?_) hrest))
  exact hq h' e hm
end
/-- the statement: an error that is made ready flies -/
theorem raise_ready {prog : Program} {w : World} {A : Around} {E : Value → Shared → Prop} {s : Shared} {env : Env} {np cpos pos : Pos} {x : Str} {args : List PySem.Expr} {Q : Flow → Shared → Prop} (hh : A.handled = none)
    (h : wpAny (model prog w) A (eval (.Call (.Name x np) args [] cpos) env) (fun v s₁ => ∃ e C bm nm q N bs hdct sn sub ab col dd k0 k1 k2 k3 k5 newId, ∃ (oe : Obj) (a0 : Value), v = .ref e ∧ s₁.heap.get? C = some (excClassObj nm q C N bs bm hdct sn sub ab col dd k0 k1 k2 k3 k5 newId) ∧
      bm.contains (.type "BaseException") = true ∧ s₁.heap.get? e = some { oe with cls := .ref C, data := .fields #[a0, .none, .none, .none, .bool false, .none] } ∧ E (.ref e) s₁) E s) :
    wpAny (model prog w) A (exec (.Raise (some (.Call (.Name x np) args [] cpos)) none pos) env) Q E s := by
  rw [arm_exec_Raise]
  refine wpAny_bind (wpAny_standAt ?_)
  simp only [evalOpt, Option.map]
  unfold raiseStmt
  refine wpAny_bind (wpAny_bind (wpAny_mono h (fun v s₁ h₁ => wpAny_bind (wpAny_standAt (wpAny_pure ?_))) fun _ _ x => x))
  obtain ⟨e, C, bm, nm, q, N, bs, hdct, sn, sub, ab, col, dd, k0, k1, k2, k3, k5, newId, oe, a0, rfl, hC, hbase, he, hE⟩ := h₁
  have hcB : (Value.ref C :: bm).contains (.type "BaseException") = true := by rw [List.contains_cons, hbase, Bool.or_true]
  obtain ⟨hp, g, d, tk, os⟩ := s₁
  repeat (first | with_reducible refine wpAny_loadPart_at he ?_ | with_reducible refine wpAny_loadPart_at hC ?_ | (with_reducible refine wpAny_isSubtype_exc hC ?_; rw [hcB]) | wp_step)
  exact wpAny_raiseNew_none hh hE
end
section
def baseOf (l : List Nat) : Nat := if l = [48, 120] then 16 else if l = [48, 111] then 8 else if l = [48, 98] then 2 else 10
def headLen (l : List Nat) : Nat := if baseOf l = 10 then 0 else 2
theorem S_inj {a b : List Nat} (h : S a = S b) : a = b := congrArg (fun s : PySem.Str => s.cps.toList) h
theorem lit_0x : PySem.Str.ofString "0x" = S [48, 120] := by decide +kernel
theorem lit_0o : PySem.Str.ofString "0o" = S [48, 111] := by decide +kernel
theorem lit_0b : PySem.Str.ofString "0b" = S [48, 98] := by decide +kernel
theorem look3 {k x y z : PySem.Str} {a b c : PyData} : (Spec.lookup (.str k) [(.str x, a), (.str y, b), (.str z, c)]).isSome = (decide (x = k) || decide (y = k) || decide (z = k)) := by
  have e : ∀ u v : PySem.Str, Spec.same (.str u) (.str v) = decide (u = v) := fun u v => by
    show (u == v) = _
    by_cases h : u = v <;> simp [h]
  simp only [Spec.lookup, e, decide_eq_true_eq]
  by_cases h1 : x = k
  · simp [h1]
  · by_cases h2 : y = k
    · simp [h1, h2]
    · by_cases h3 : z = k <;> simp [h1, h2, h3]
def BaseAtOut (text : List Nat) (at_ : Nat) (news : List (Addr × Obj)) (r : Value) (led : List (Addr × Obj)) : Prop :=
  ∃ a ta tb, r = .ref a ∧ (∀ q ∈ news, q.1 < a) ∧ led = [(a, tupObj [.int (baseOf ((text.drop at_).take 2) : Nat) ta, .int ((at_ + headLen ((text.drop at_).take 2) : Nat) : Int) tb])]
set_option maxHeartbeats 8000000 in
theorem base_at_says {w : World} {text : List Nat} {at_ : Nat} {t1 t2 : Tok} (hl : text.length ≤ 1000000) (h1 : at_ ≤ text.length) :
   Says w 1 8 104 [.str (S text) t1, .int at_ t2] [] (BaseAtOut text at_) := by
  intro loose mean mg mb dp un gd cn cs a ccd cl outer A₀ base h₀ L m s Q E news B F X N T hk hd hu hsep hret
  rw [List.nil_append] at N
  refine wpAny_call ?_
  k_dflt cell_enter
  refine toks_any ?_
  intro tk0
  rename_i g L' h' FG F' N' B' X' T'
  replace F' : Fr g L' h' (fun y => List.lookup y [(Str.ofString "at", .int at_ t2), (Str.ofString "text", .str (S text) t1)]) := F'
  k_steps
  · rename_i e1 _ _ _ _ _ _ l1 _ kN _ _
    rw [lit_0x] at e1
    have hb := S_inj e1
    refine tup_end hret (by assumption) kN (sub_skip sub_self) ?_
    unfold BaseAtOut
    rw [hb]
    exact ⟨_, _, _, rfl, ktn_ltOf l1.2, rfl⟩
  · rename_i e1 _ _ _ _ _ _ l1 _ kN _ _
    rw [lit_0o] at e1
    have hb := S_inj e1
    refine tup_end hret (by assumption) kN (sub_skip sub_self) ?_
    unfold BaseAtOut
    rw [hb]
    exact ⟨_, _, _, rfl, ktn_ltOf l1.2, rfl⟩
  · rename_i e1 _ _ _ _ _ _ l1 _ kN _ _
    rw [lit_0b] at e1
    have hb := S_inj e1
    refine tup_end hret (by assumption) kN (sub_skip sub_self) ?_
    unfold BaseAtOut
    rw [hb]
    exact ⟨_, _, _, rfl, ktn_ltOf l1.2, rfl⟩
  · rename_i e0 n1 n2 n3
    simp only [strData] at e0
    rw [look3] at e0
    simp only [Bool.or_eq_true, decide_eq_true_eq, eq_comm (a := Str.ofString _)] at e0
    simp only [n1, n2, n3, or_self] at e0
  · rename_i e0 _ _ _ _ l1 _ kN _ _
    simp only [strData] at e0
    rw [look3] at e0
    simp only [Bool.or_eq_false_iff, decide_eq_false_iff_not, eq_comm (a := Str.ofString _), lit_0x, lit_0o, lit_0b] at e0
    obtain ⟨⟨n1, n2⟩, n3⟩ := e0
    have hb : baseOf ((text.drop at_).take 2) = 10 := by
      unfold baseOf
      rw [if_neg fun e => n1 (congrArg S e.symm), if_neg fun e => n2 (congrArg S e.symm), if_neg fun e => n3 (congrArg S e.symm)]
    refine tup_end hret (by assumption) kN (sub_skip sub_self) ?_
    unfold BaseAtOut headLen
    rw [hb]
    exact ⟨_, _, _, rfl, ktn_ltOf l1.2, rfl⟩
end
section
set_option maxHeartbeats 8000000 in
theorem run_end_gives {w : World} {text signs : List Nat} {at_ : Nat} {t1 t2 t3 : Tok} (hl : text.length ≤ 1000000) (h1 : at_ ≤ text.length) :
   Gives w 1 8 76 [.str (S text) t1, .int at_ t2, .str (S signs) t3] (fun t => .int (runEnd text signs at_ : Nat) t) := by
  intro loose mean mg mb dp un gd cn cs a ccd cl outer A₀ base h₀ L m s Q E news B F X N T hk hd hu hret
  refine wpAny_call ?_
  k_dflt cell_enter
  refine toks_any ?_
  intro tk0
  rename_i g L' h' FG F' N' B' X' T'
  replace F' : Fr g L' h' (fun y => List.lookup y [(Str.ofString "signs", .str (S signs) t3), (Str.ofString "at", .int at_ t2), (Str.ofString "text", .str (S text) t1)]) := F'
  walk1
  refine' wh (fun _ => news) (fun (c : Nat × Tok) => [(Str.ofString "at", .int c.1 c.2), (Str.ofString "signs", .str (S signs) t3), (Str.ofString "text", .str (S text) t1)]) (fun c => c.1 ≤ text.length ∧ runEnd text signs c.1 = runEnd text signs at_) (fun c => text.length - c.1) (at_, t2) F' N' (fun _ h => h) ?h1 ⟨h1, rfl⟩ ?turn ?hE
  case h1 => exact allc rfl (allc rfl (all1 rfl))
  case hE => passes_own
  case turn =>
    rintro ⟨i, ti⟩ u h₁ tk₁ ⟨hi1, hr⟩ F₁ N₁
    clear F' N'
    dsimp only at hi1 hr F₁ N₁ ⊢
    k_fold
    k_steps
    · rename_i h2 _ _ h3 _ F2 N2
      refine WEnd.intro (i + 1, _) F2 N2 (fun _ h => h) (allc rfl (allc rfl (all1 rfl))) ⟨by omega, ?_⟩ ?_
      · rw [runEnd_step (by walk_at "om") h3, hr]
      · show text.length - (i + 1) < text.length - i
        omega
    · rename_i h2 _ _ h3 _ _ _ _
      rw [runEnd_stop (.inr h3)] at hr
      rw [← hr] at hret
      exact hret _ _ _ (by assumption) (by assumption)
    · rename_i h2 _ _ _ _
      rw [runEnd_stop (.inl (by walk_at "om"))] at hr
      rw [← hr] at hret
      exact hret _ _ _ (by assumption) (by assumption)
end
section
theorem lit_so : (PySem.Str.ofString "/*").1.toList = [47, 42] := by decide +kernel
theorem lit_os : (PySem.Str.ofString "*/").1.toList = [42, 47] := by decide +kernel
structure Rem (text : List Nat) (at_ n : Nat) (rest : List Nat) : Prop where
  lt : at_ + 1 < text.length
  head : (text.drop at_).take 2 = [47, 42]
  mid : ∀ k, at_ + 2 ≤ k → k < at_ + 2 + n → k < text.length ∧ ∀ x, (text.drop k).take 2 ≠ 47 :: x ∧ (text.drop k).take 2 ≠ 42 :: x
  last : at_ + 3 + n < text.length ∧ (text.drop (at_ + 2 + n)).take 2 = [42, 47]
theorem rem_of {text : List Nat} {at_ : Nat} {mid rest : List Nat} (h : text.drop at_ = 47 :: 42 :: (mid ++ 42 :: 47 :: rest)) (hm : ∀ c ∈ mid, c ≠ 47 ∧ c ≠ 42) : Rem text at_ mid.length rest := by
  have hlen := congrArg List.length h
  simp only [List.length_drop, List.length_cons, List.length_append] at hlen
  have hd2 : text.drop (at_ + 2) = mid ++ 42 :: 47 :: rest := by
    rw [← List.drop_drop, h]; rfl
  refine ⟨by omega, by rw [h]; rfl, fun k h1 h2 => ⟨by omega, ?_⟩, by omega, ?_⟩
  · obtain ⟨j, rfl⟩ : ∃ j, k = at_ + 2 + j := ⟨k - (at_ + 2), by omega⟩
    have hj : j < mid.length := by omega
    have e : text.drop (at_ + 2 + j) = mid[j] :: (mid.drop (j + 1) ++ 42 :: 47 :: rest) := by
      rw [← List.drop_drop, hd2, List.drop_append_of_le_length (by walk_at "om"), List.drop_eq_getElem_cons hj]
      rfl
    have hc := hm mid[j] (List.getElem_mem hj)
    intro x
    rw [e, List.take_succ_cons]
    exact ⟨fun z => hc.1 (List.cons.inj z).1, fun z => hc.2 (List.cons.inj z).1⟩
  · rw [← List.drop_drop, hd2, List.drop_append_of_le_length (Nat.le_refl _), List.drop_length]
    rfl
set_option maxHeartbeats 8000000 in
theorem remark_end_gives {w : World} {text : List Nat} {at_ n : Nat} {rest : List Nat} {t1 t2 : Tok} (hl : text.length ≤ 1000000) (R : Rem text at_ n rest) :
   Gives w 1 8 83 [.str (S text) t1, .int at_ t2] (fun t => .int (at_ + 4 + n : Nat) t) := by
  intro loose mean mg mb dp un gd cn cs a ccd cl outer A₀ base h₀ L m s Q E news B F X N T hk hd hu hret
  refine wpAny_call ?_
  k_dflt cell_enter
  refine toks_any ?_
  intro tk0
  rename_i g L' h' FG F' N' B' X' T'
  replace F' : Fr g L' h' (fun y => List.lookup y [(Str.ofString "at", .int at_ t2), (Str.ofString "text", .str (S text) t1)]) := F'
  k_steps
  refine Hold.go ?_
  (with_reducible rename Fr _ _ _ _ => F1); (with_reducible rename News _ _ _ _ => N1)
  refine wh (fun _ => news) (fun (c : Nat × Nat × Tok × Tok) => [(Str.ofString "at", .int c.1 c.2.2.1), (Str.ofString "depth", .int c.2.1 c.2.2.2), (Str.ofString "text", .str (S text) t1)])
    (fun c => (c.1 = at_ ∧ c.2.1 = 0) ∨ (c.2.1 = 1 ∧ at_ + 2 ≤ c.1 ∧ c.1 ≤ at_ + 2 + n)) (fun c => text.length - c.1) (at_, 0, t2, _) F1 N1 (sub_skip sub_self) (allc rfl (allc rfl (all1 rfl))) (.inl ⟨rfl, rfl⟩) ?turn (by passes_own)
  case turn =>
    rintro ⟨i, d, ti, td⟩ u h₁ tk₁ hp F₁ N₁
    clear F1 N1
    dsimp only at hp F₁ N₁ ⊢
    have hlt : i < text.length := by
      rcases hp with ⟨rfl, _⟩ | ⟨_, h2, h3⟩
      · have := R.lt; omega
      · have := R.last.1
        omega
    have hpair : (i = at_ ∧ d = 0 ∧ (text.drop i).take 2 = [47, 42]) ∨ (d = 1 ∧ at_ + 2 ≤ i ∧ i < at_ + 2 + n ∧ (text.drop i).take 2 ≠ [47, 42] ∧ (text.drop i).take 2 ≠ [42, 47]) ∨ (d = 1 ∧ i = at_ + 2 + n ∧ (text.drop i).take 2 = [42, 47]) := by
      rcases hp with ⟨rfl, h⟩ | ⟨h1, h2, h3⟩
      · exact .inl ⟨rfl, h, R.head⟩
      · rcases Nat.lt_or_ge i (at_ + 2 + n) with h4 | h4
        · exact .inr (.inl ⟨h1, h2, h4, ((R.mid i h2 h4).2 _).1, ((R.mid i h2 h4).2 _).2⟩)
        · obtain rfl : i = at_ + 2 + n := by omega
          exact .inr (.inr ⟨h1, rfl, R.last.2⟩)
    (try k_fold)
    k_steps
    · rename (List.take 2 _ = _) => e1
      rw [lit_so] at e1
      rename Fr _ _ _ _ => F2
      rename News _ _ _ _ => N2
      rcases hpair with ⟨rfl, rfl, h3⟩ | ⟨_, _, _, h3, _⟩ | ⟨_, _, h3⟩
      · exact WEnd.intro (i + 2, 1, _, _) F2 N2 (sub_skip sub_self) (allc rfl (allc rfl (all1 rfl))) (.inr ⟨rfl, Nat.le_refl _, Nat.le_add_right _ _⟩) (by show text.length - (i + 2) < text.length - i; omega)
      · exact absurd e1 h3
      · rw [e1] at h3; cases h3
    · rename (List.take 2 _ = _) => e1
      rw [lit_os] at e1
      rcases hpair with ⟨rfl, rfl, h3⟩ | ⟨_, _, _, _, h3⟩ | ⟨_, rfl, h3⟩
      · rw [e1] at h3; cases h3
      · exact absurd e1 h3
      · refine cb_retI (Q := Q) hret ?_ (by assumption) (sub_drop (by assumption) (sub_skip sub_self))
        omega
    · rename (List.take 2 _ = _) => e1
      rw [lit_os] at e1
      rcases hpair with ⟨rfl, rfl, h3⟩ | ⟨_, _, _, _, h3⟩ | ⟨rfl, rfl, h3⟩
      · rw [e1] at h3; cases h3
      · exact absurd e1 h3
      · exfalso; omega
    · have n1 : ¬ (text.drop i).take 2 = (PySem.Str.ofString "/*").1.toList := by assumption
      have n2 : ¬ (text.drop i).take 2 = (PySem.Str.ofString "*/").1.toList := by assumption
      rename Fr _ _ _ _ => F2
      rename News _ _ _ _ => N2
      rw [lit_so] at n1
      rw [lit_os] at n2
      rcases hpair with ⟨rfl, rfl, h3⟩ | ⟨h0, h1, h2, _, h3⟩ | ⟨rfl, rfl, h3⟩
      · exact absurd h3 n1
      · exact WEnd.intro (i + 1, d, _, _) F2 N2 sub_self (allc rfl (allc rfl (all1 rfl))) (.inr ⟨h0, by omega, by omega⟩) (by show text.length - (i + 1) < text.length - i; omega)
      · exact absurd h3 n2
end
section
local macro_rules | `(tactic| walk_at "call ref") => `(tactic| ((with_reducible show wpAny _ _ (call (Value.ref 76) _) _ _ _); k_dflt (refine' run_end_gives ?q1 ?q2 ?k1 ?k2 ?k3 ?k4 ?k5 ?kK ?kd ?ku ?_; (case k1 | k2 | k3 | k4 | k5 => k_asm); (case kK => walk_at "ra"); (case kd | ku => walk_at "kd"); (case q1 | q2 => walk_at "ao")); intro t9 h9 tk9 F9 N9; (try dsimp only); (try k_fold)))
abbrev blanks : List Nat := [32, 9, 13, 10]
theorem lit_blanks : (PySem.Str.ofString " \t\x0d\n").1.toList = [32, 9, 13, 10] := by decide +kernel
theorem lit_ss : (PySem.Str.ofString "//").1.toList = [47, 47] := by decide +kernel
inductive Skips (text : List Nat) : Nat → Nat → Prop
  | stop {i : Nat} : i ≤ text.length → (i < text.length → text.getD i 0 ∉ blanks ∧ (text.drop i).take 2 ≠ [47, 47] ∧ (text.drop i).take 2 ≠ [47, 42]) → Skips text i i
  | blank {i j : Nat} : i < text.length → text.getD i 0 ∈ blanks → Skips text (runEnd text blanks i) j → Skips text i j
  | line {i k j : Nat} : i < text.length → text.getD i 0 ∉ blanks → (text.drop i).take 2 = [47, 47] → Txt.find3 (S text) (PySem.Str.ofString "\n") (i : Int) = (k : Int) → i < k → k ≤ text.length → Skips text k j → Skips text i j
  | rem {i n j : Nat} {rest : List Nat} : text.getD i 0 ∉ blanks → Rem text i n rest → Skips text (i + 4 + n) j → Skips text i j
set_option maxHeartbeats 8000000 in
theorem blank_end_gives {w : World} {text : List Nat} {at_ j : Nat} {t1 t2 : Tok} (hl : text.length ≤ 1000000) (h1 : at_ ≤ text.length) (hS : Skips text at_ j) :
   Gives w 2 16 90 [.str (S text) t1, .int at_ t2] (fun t => .int (j : Nat) t) := by
  intro loose mean mg mb dp un gd cn cs a ccd cl outer A₀ base h₀ L m s Q E news B F X N T hk hd hu hret
  refine wpAny_call ?_
  k_dflt cell_enter
  refine toks_any ?_
  intro tk0
  rename_i g L' h' FG F' N' B' X' T'
  replace F' : Fr g L' h' (fun y => List.lookup y [(Str.ofString "at", .int at_ t2), (Str.ofString "text", .str (S text) t1)]) := F'
  k_steps
  refine Hold.go ?_
  (with_reducible rename Fr _ _ _ _ => F1); (with_reducible rename News _ _ _ _ => N1)
  refine wh (fun _ => news) (fun (c : Nat × Tok) => [(Str.ofString "at", .int c.1 c.2), (Str.ofString "text", .str (S text) t1)]) (fun c => c.1 ≤ text.length ∧ Skips text c.1 j) (fun c => text.length - c.1) (at_, t2) F1 N1 sub_self (allc rfl (all1 rfl)) ⟨h1, hS⟩ ?turn (by passes_own)
  case turn =>
    rintro ⟨i, ti⟩ u h₁ tk₁ ⟨hi1, hs⟩ F₁ N₁
    clear F1 N1
    dsimp only at hi1 hs F₁ N₁ ⊢
    (try k_fold)
    k_steps
    · rename (_ ∈ _) => hb
      rw [lit_blanks] at hb
      rename Fr _ _ _ _ => F2
      rename News _ _ _ _ => N2
      have hlt : i < text.length := by omega
      cases hs with
      | stop _ h => exact absurd hb (h hlt).1
      | line _ h => exact absurd hb h
      | rem h => exact absurd hb h
      | blank _ _ hs' =>
        have hg := runEnd_step hlt (signs := blanks) hb
        have hg2 := runEnd_ge (text := text) (signs := blanks) (i := i + 1)
        rw [hg] at hg2
        exact WEnd.intro (runEnd text blanks i, _) F2 N2 sub_self (allc rfl (all1 rfl)) ⟨runEnd_le hi1, hs'⟩ (by show text.length - runEnd text blanks i < text.length - i; omega)
    · have hb : ¬ text.getD i 0 ∈ (PySem.Str.ofString " \t\x0d\n").1.toList := by assumption
      have h2 : (text.drop i).take 2 = (PySem.Str.ofString "//").1.toList := by assumption
      rw [lit_blanks] at hb
      rw [lit_ss] at h2
      have hlt : i < text.length := by omega
      exfalso
      cases hs with
      | stop _ h => exact absurd h2 (h hlt).2.1
      | blank _ h => exact absurd h hb
      | rem _ R => have := R.head; rw [h2] at this; cases this
      | line _ _ _ h => rename (Txt.find3 _ _ _ < 0) => hn; rw [h] at hn; omega
    · have hb : ¬ text.getD i 0 ∈ (PySem.Str.ofString " \t\x0d\n").1.toList := by assumption
      have h2 : (text.drop i).take 2 = (PySem.Str.ofString "//").1.toList := by assumption
      rw [lit_blanks] at hb
      rw [lit_ss] at h2
      rename Fr _ _ _ _ => F2
      rename News _ _ _ _ => N2
      have hlt : i < text.length := by omega
      cases hs with
      | stop _ h => exact absurd h2 (h hlt).2.1
      | blank _ h => exact absurd h hb
      | rem _ R => have := R.head; rw [h2] at this; cases this
      | line _ _ _ h h3 h4 hs' =>
        rename Nat => k
        rw [h] at F2
        exact WEnd.intro (_, _) F2 N2 sub_self (allc rfl (all1 rfl)) ⟨h4, hs'⟩ (by dsimp only; omega)
    · have hb : ¬ text.getD i 0 ∈ (PySem.Str.ofString " \t\x0d\n").1.toList := by assumption
      have h2 : (text.drop i).take 2 = (PySem.Str.ofString "/*").1.toList := by assumption
      rw [lit_blanks] at hb
      rw [lit_so] at h2
      have hlt : i < text.length := by omega
      cases hs with
      | stop _ h => exact absurd h2 (h hlt).2.2
      | blank _ h => exact absurd h hb
      | line _ _ h => rw [h2] at h; cases h
      | rem _ R hs' =>
        have hlast := R.last.1
        refine Hold.go ?_
        k_dflt (refine' remark_end_gives hl R ?k1 ?k2 ?k3 ?k4 ?k5 ?kK ?kd ?ku ?kR; (case k1 => k_asm); (case k2 => k_asm); (case k3 => k_asm); (case k4 => k_asm); (case k5 => k_asm); (case kK => first | exact rfl | assumption); (case kd => first | ktr_room | omega); (case ku => first | ktr_units | omega))
        intro t9 h9 tk9 F9 N9
        (try dsimp only)
        (try k_fold)
        k_steps
        rename Fr _ _ _ _ => F2
        rename News _ _ _ _ => N2
        exact WEnd.intro (_, _) F2 N2 sub_self (allc rfl (all1 rfl)) ⟨by dsimp only; omega, hs'⟩ (by dsimp only; omega)
    · have hb : ¬ text.getD i 0 ∈ (PySem.Str.ofString " \t\x0d\n").1.toList := by assumption
      have h1 : ¬ (text.drop i).take 2 = (PySem.Str.ofString "//").1.toList := by assumption
      have h2 : ¬ (text.drop i).take 2 = (PySem.Str.ofString "/*").1.toList := by assumption
      rw [lit_blanks] at hb
      rw [lit_ss] at h1
      rw [lit_so] at h2
      cases hs with
      | blank _ h => exact absurd h hb
      | line _ _ h => exact absurd h h1
      | rem _ R => exact absurd R.head h2
      | stop _ h => exact hret _ _ _ (by assumption) (by assumption)
    · have hn : ¬ (i : Int) < (text.length : Int) := by assumption
      cases hs with
      | blank h => omega
      | line h => omega
      | rem _ R => have := R.lt; omega
      | stop _ h => exact hret _ _ _ (by assumption) (by assumption)
end
section
abbrev excMro (C : Addr) : List Value := [.ref C, .ref 39, .type "Exception", .type "BaseException", .type "object"]
theorem refuse_exc (self : Value) (C : Addr) : refuseLoop self "__setattr__" (excMro C) = pure () := by
  rw [refuseLoop_ref, refuseLoop_ref]
  kernel_rfl
theorem clsExc {Pp : Params} {C : Addr} (hC : C = 52 ∨ C = 64) : ∃ cd, clsIn (hd.heap_39 Pp) C = some cd ∧ cd.mro = excMro C ∧ cd.hasDict = true := by
  rcases hC with rfl | rfl <;> exact ⟨_, rfl, rfl, rfl⟩
theorem setterExc {Pp : Params} {C : Addr} (hC : C = 52 ∨ C = 64) : findIn (hd.heap_39 Pp) (.ref C) "__setattr__" = some (some (.builtin "object.__setattr__")) := by
  rcases hC with rfl | rfl <;> k_is
open PySem.Builtin PySem.Builtin.ObjectAttr
section
variable {w : World} {A : Around} {s : Shared} {h₀ : Heap} {L e C : Addr} {m : Str → Option Value} {prog : Program}
theorem osa_exc {R : Result → Shared → Prop} {ox : Obj} {od : Option Obj} {name : Str} {tk : Tok} {v : Value} (hC : C = 52 ∨ C = 64) (X : (hd.heap_39 w.params).In s.heap) (I : InstAt s.heap e ox C od)
    (ht : findIn (hd.heap_39 w.params) (.ref C) name = some none)
    (h : wpAny (model prog w) A.in1 (storeInOwnDict (.ref e) (.ref C) (.str name tk) name v false)
      (fun fin s' => match fin with | .done f => R (.ok f) s' | .again c' => c'.quiet = true ∧ codeAny (model prog w) A c' R s') (fun e s' => R (.error e) s') s) :
    codeAny (model prog w) A (.call (.builtin "object.__setattr__") ⟨[.ref e, .str name tk, v], []⟩) R s := by
  have SF := PySem.F.store_object
  obtain ⟨cd, hc, ho, hdd⟩ := clsExc (Pp := w.params) hC
  have sub : Looks (model prog w) s.heap (isInstance (.ref e) (.type "object")) true := I.type.andThen (looks_mroIn X (by unfold mroIn; rw [hc, Option.bind_some, ho]; simp [excMro]))
  refine codeAny_call_builtin SF.slot.plain SF.entry (@check_slot (model prog w) _ _ s "object.__setattr__" "object" "__setattr__" (.ref e) [.str name tk, v] [] _ SF.kind SF.split sub (SF.args (.ref e) (.str name tk) v) ?_)
  have hm : Looks (model prog w) s.heap (mroOf (.ref C)) cd.mro := (looks_clsIn X hc).andThen .now
  have L3 : Looks (model prog w) s.heap (storeTaker? none) none := .now
  rw [osa_eq, refuse_eq]
  refine wpAny_bind (wpAny_bind (I.type.here (wpAny_bind (hm.here ?_))))
  rw [ho, refuse_exc]
  refine wpAny_pure (wpAny_bind (I.type.here (wpAny_bind ((looks_findIn X ht).here (wpAny_bind (L3.here ?_))))))
  exact h
theorem store_at {Q : PySem.Fin → Shared → Prop} {E : Value → Shared → Prop} {M : Model} {name : Str} {tk : Tok} {v : Value} {d : Addr} {od : Obj} {es : Array DictEntry} {n : Nat} (D : s.heap.get? d = some od) (hod : od.data = .dict es n) (hno : es.any (·.refKey) = false)
    (hz : (Obj.putName name (PyData.keyHash M.w.params name) (.str name s.toks) v od).data.pastItsLine = none)
    (h : Q (.done (.ret .none)) { s with heap := s.heap.update d (Obj.putName name (PyData.keyHash M.w.params name) (.str name s.toks) v), toks := s.toks + 1 }) :
    wpAny M A (storeInDict d (.str name tk) name v) Q E s := by
  unfold storeInDict newKeyGuard nsSet
  have hf : (Obj.putName name (PyData.keyHash M.w.params name) (.str name s.toks) v od).isFreed = false := by
    have hx := (Heap.get?_some_iff.mp D).2
    obtain ⟨c, dd, dt, sl⟩ := od
    dsimp only at hod
    subst hod
    rw [PySem.Obj.putName_eq]
    unfold PySem.Obj.putNameByArray
    dsimp only
    repeat' split
    all_goals rfl
  have D' := Heap.get?_update_self (Obj.putName name (PyData.keyHash M.w.params name) (.str name s.toks) v) D hf
  refine wpAny_bind (wpAny_pure (wpAny_bind (wpAny_bind (wpAny_bind (wpAny_askSetting (wpAny_pure (wpAny_bind (wpAny_mkText (wpAny_bind (wpAny_loadPart D ?_))))))))))
  rw [hod]
  dsimp only
  rw [aRefKeyMayBeTheName_at, hno, Bool.and_false]
  refine wpAny_updatePart D ?_
  refine wpAny_bind (wpAny_lookBehind D' hz ?_)
  exact wpAny_pure h
end
abbrev dictNil : Obj := { cls := .type "dict", data := .dict #[] }
section
variable {w : World} {A : Around} {s : Shared} {h₀ : Heap} {L e C : Addr} {m : Str → Option Value} {prog : Program} {E : Value → Shared → Prop} {W : List (Addr × Obj)} {vs : Array Value} {name : Str} {v : Value} {Q : Unit → Shared → Prop}
theorem exc_set_first (hC : C = 52 ∨ C = 64) (F : Fr h₀ L s.heap m) (X₀ : (hd.heap_39 w.params).In h₀) (N : News h₀ L s.heap ((e, { cls := .ref C, data := .fields vs }) :: W)) (hW : ∀ p ∈ W, p.1 ≠ e)
    (ht : findIn (hd.heap_39 w.params) (.ref C) name = some none)
    (hz : ∀ tk, (Obj.putName name (PyData.keyHash w.params name) (.str name tk) v dictNil).data.pastItsLine = none)
    (h : ∀ d h' tk1 tk2, Fr h₀ L h' m → News h₀ L h' ((e, { cls := .ref C, dict := some d, data := .fields vs }) :: (d, Obj.putName name (PyData.keyHash w.params name) (.str name tk1) v dictNil) :: W) →
      (∀ p ∈ W, p.1 ≠ d) → d ≠ e → Q () { s with heap := h', toks := tk2 }) :
    wpAny (model prog w) A (setAttr (.ref e) name v) Q E s := by
  have X := X₀.keeps F.keep
  have hx := (N (e, _) (.head _)).1
  have I : InstAt s.heap e { cls := .ref C, data := .fields vs } C none := ⟨hx, rfl, rfl, trivial⟩
  refine set_plain X I (setterExc hC) ?_
  refine osa_exc (s := { s with toks := s.toks + 1 }) hC X I ht ?_
  obtain ⟨cd, hc, ho, hdd⟩ := clsExc (Pp := w.params) hC
  obtain ⟨hh, g, dr, t, os⟩ := s
  dsimp only at F N hx X h ⊢
  unfold storeInOwnDict ownDictForStores instanceDict
  refine wpAny_bind (wpAny_pure (wpAny_bind (wpAny_bind (wpAny_loadPart hx (wpAny_bind ((looks_clsIn X hc).here ?_))))))
  rw [hdd]
  have N₁ := N.push F dictNil
  have F₁ := F.push dictNil
  have hxd : e ≠ hh.objs.size := Nat.ne_of_lt (Heap.lt_size hx)
  refine wpAny_bind (wpAny_alloc (wpAny_bind (wpAny_update (N₁ (e, _) (.tail _ (.head _))).1 ?_)))
  refine wpAny_pure (a := some hh.objs.size) ?_
  obtain ⟨F₂, N₂⟩ := news_upd (d := e) (pre := [(hh.objs.size, dictNil)]) (post := W) (f := fun o => { o with dict := some hh.objs.size }) F₁ N₁ (by simp [Ne.symm hxd]) hW rfl rfl
  have D := (N₂ (hh.objs.size, dictNil) (.head _)).1
  refine store_at (M := model prog w) D rfl (by simp) (hz _) ?_
  have hWd : ∀ p ∈ W, p.1 ≠ hh.objs.size := fun p hp => Nat.ne_of_lt (Heap.lt_size (N p (.tail _ hp)).1)
  obtain ⟨F₃, N₃⟩ := news_upd (d := hh.objs.size) (pre := []) (post := (e, { cls := .ref C, dict := some hh.objs.size, data := .fields vs }) :: W) (f := Obj.putName name (PyData.keyHash w.params name) (.str name (t + 1)) v) F₂ N₂ (by simp) (fun p hp => by
    rcases List.mem_cons.mp hp with rfl | hp
    · exact hxd
    · exact hWd p hp) rfl rfl
  exact h hh.objs.size _ (t + 1) _ F₃ (fun p hp => N₃ p (by
    rcases List.mem_cons.mp hp with rfl | hp
    · exact .tail _ (.head _)
    · rcases List.mem_cons.mp hp with rfl | hp
      · exact .head _
      · exact .tail _ (.tail _ hp))) hWd (Ne.symm hxd)
theorem exc_set_next {d : Addr} {od : Obj} {es : Array DictEntry} {n : Nat} (hC : C = 52 ∨ C = 64) (F : Fr h₀ L s.heap m) (X₀ : (hd.heap_39 w.params).In h₀) (N : News h₀ L s.heap ((e, { cls := .ref C, dict := some d, data := .fields vs }) :: (d, od) :: W)) (hW : ∀ p ∈ W, p.1 ≠ d) (hde : d ≠ e)
    (ht : findIn (hd.heap_39 w.params) (.ref C) name = some none) (hod : od.data = .dict es n) (hno : es.any (·.refKey) = false)
    (hz : ∀ tk, (Obj.putName name (PyData.keyHash w.params name) (.str name tk) v od).data.pastItsLine = none)
    (hf : ∀ tk, (Obj.putName name (PyData.keyHash w.params name) (.str name tk) v od).isFreed = false)
    (h : ∀ h' tk1 tk2, Fr h₀ L h' m → News h₀ L h' ((e, { cls := .ref C, dict := some d, data := .fields vs }) :: (d, Obj.putName name (PyData.keyHash w.params name) (.str name tk1) v od) :: W) → Q () { s with heap := h', toks := tk2 }) :
    wpAny (model prog w) A (setAttr (.ref e) name v) Q E s := by
  have X := X₀.keeps F.keep
  have hx := (N (e, _) (.head _)).1
  have D := (N (d, _) (.tail _ (.head _))).1
  have I : InstAt s.heap e { cls := .ref C, dict := some d, data := .fields vs } C (some od) := ⟨hx, rfl, rfl, D⟩
  refine set_plain X I (setterExc hC) ?_
  refine osa_exc (s := { s with toks := s.toks + 1 }) hC X I ht ?_
  obtain ⟨cd, hc, ho, hdd⟩ := clsExc (Pp := w.params) hC
  obtain ⟨hh, g, dr, t, os⟩ := s
  dsimp only at F N hx X h D ⊢
  unfold storeInOwnDict ownDictForStores instanceDict
  refine wpAny_bind (wpAny_pure (wpAny_bind (wpAny_bind (wpAny_loadPart hx (wpAny_bind ((looks_clsIn X hc).here ?_))))))
  rw [hdd]
  refine wpAny_pure (a := some d) ?_
  refine store_at (M := model prog w) D hod hno (hz _) ?_
  obtain ⟨F₃, N₃⟩ := news_upd (d := d) (pre := [(e, { cls := .ref C, dict := some d, data := .fields vs })]) (post := W) (f := Obj.putName name (PyData.keyHash w.params name) (.str name (t + 1)) v) F N (by simp [Ne.symm hde]) hW rfl (hf _)
  exact h _ (t + 1) _ F₃ N₃
end
section
variable {w : World} {A : Around} {s : Shared} {h₀ : Heap} {L e C : Addr} {m : Str → Option Value} {prog : Program} {E : Value → Shared → Prop} {W : List (Addr × Obj)} {msg : Value} {Q : Value → Shared → Prop}
theorem init_exc (hC : C = 52 ∨ C = 64) (F : Fr h₀ L s.heap m) (X₀ : (hd.heap_39 w.params).In h₀) {t0 : Addr} {msg : Value} (N : News h₀ L s.heap ((e, { cls := .ref C, data := .fields #[.ref t0, .none, .none, .none, .bool false, .none] }) :: W)) (hW : ∀ p ∈ W, p.1 ≠ e)
    (h : ∀ t1 h', Fr h₀ L h' m → News h₀ L h' ((e, { cls := .ref C, data := .fields #[.ref t1, .none, .none, .none, .bool false, .none] }) :: W) → Q .none { s with heap := h' }) :
    wpAny (model prog w) A (call (.builtin "Exception.__init__") [.ref e, msg]) Q E s := by
  have X := X₀.keeps F.keep
  have hx := (N (e, _) (.head _)).1
  obtain ⟨nm, q, N', bs, hdct, sn, sub, ab, col, dd, k0, k1, k2, k3, k5, hCo⟩ : ∃ nm q N bs hdct sn sub ab col dd k0 k1 k2 k3 k5,
    s.heap.get? C = some (excClassObj nm q C N bs [.ref 39, .type "Exception", .type "BaseException", .type "object"] hdct sn sub ab col dd k0 k1 k2 k3 k5 "Exception.__new__") := by
    rcases hC with rfl | rfl <;> exact ⟨_, _, _, _, _, _, _, _, _, _, _, _, _, _, _, X _ _ rfl⟩
  obtain ⟨hh, g, dr, t, os⟩ := s
  dsimp only at F N hx X h hCo ⊢
  have FE := PySem.F.excBase_Exception
  refine wpAny_call (codeAny_call_builtin FE.init.plain FE.initEntry ?_)
  have hcB : (Value.ref C :: [.ref 39, .type "Exception", .type "BaseException", .type "object"]).contains (.type "Exception") = true := by simp
  have hshort := FE.noStar
  simp only [checkBuiltinCall, FE.initKind, FE.initSplit, FE.initRow]
  repeat (first | with_reducible refine wpAny_loadPart_at hx ?_ | with_reducible refine wpAny_loadPart_at hCo ?_ | (with_reducible refine wpAny_isSubtype_exc hCo ?_; rw [hcB]) | wp_step)
  show Q .none _
  have hWt : ∀ p ∈ W, p.1 ≠ e := hW
  have N₁ := N.push F { cls := .type "tuple", data := .seq #[msg] }
  have F₁ := F.push { cls := .type "tuple", data := .seq #[msg] }
  have hxd : e ≠ hh.objs.size := Nat.ne_of_lt (Heap.lt_size hx)
  obtain ⟨F₂, N₂⟩ := news_upd (d := e) (pre := [(hh.objs.size, { cls := .type "tuple", data := .seq #[msg] })]) (post := W) (f := Obj.mapFields fun x => x.setIfInBounds 0 (Value.ref hh.objs.size)) F₁ N₁ (by simp [Ne.symm hxd]) hW rfl rfl
  exact h _ _ F₂ (fun p hp => N₂ p (.tail _ hp))
end
end
section
theorem excCls {h : Heap} {Pp : Params} (X : (hd.heap_39 Pp).In h) {C : Addr} (hC : C = 52 ∨ C = 64) : ∃ nm q N bs hdct sn sub ab col dd k0 k1 k2 k3 k5,
    h.get? C = some (excClassObj nm q C N bs [.ref 39, .type "Exception", .type "BaseException", .type "object"] hdct sn sub ab col dd k0 k1 k2 k3 k5 "Exception.__new__") := by
  rcases hC with rfl | rfl
  · exact ⟨_, _, _, _, _, _, _, _, _, _, _, _, _, _, _, X _ _ rfl⟩
  · exact ⟨_, _, _, _, _, _, _, _, _, _, _, _, _, _, _, X _ _ rfl⟩
theorem excInit {M : Model} {h : Heap} {Pp : Params} (X : (hd.heap_39 Pp).In h) {C : Addr} (hC : C = 52 ∨ C = 64) : Looks M h (typeLookup (.ref C) "__init__") (some (.ref 36)) := by
  rcases hC with rfl | rfl
  · exact looks_findIn X (by k_is)
  · exact looks_findIn X (by k_is)
theorem initFn {h : Heap} {Pp : Params} (X : (hd.heap_39 Pp).In h) : ∃ o, h.get? 36 = some o ∧ o.cls = .type "function" := ⟨_, X _ _ rfl, rfl⟩
theorem meta_Exc : typeOf (.type "Exception") = pure (.type "type") := by kernel_rfl
local macro_rules | `(tactic| walk_at "getMethod type:Exception") => `(tactic| (refine' method_type ?F ?X ?m (by decide +kernel) ?e ?h ?_; (case F => k_asm); (case X => k_asm); (case m => exact meta_Exc); (case e => k_dflt k_is); (case h => k_handed)))
local macro_rules | `(tactic| walk_at "call builtin:Exception.__init__") => `(tactic| (refine Hold.out ?_))
local macro_rules | `(tactic| walk_at "setAttr ref") => `(tactic| (refine Hold.out ?_))
def newsOf (h₀ : Heap) (L : Addr) (h : Heap) : List (Addr × Obj) := (List.range h.objs.size).filterMap fun b => if b = L then none else match h₀.get? b, h.get? b with
  | none, some o => some (b, o)
  | _, _ => none
theorem newsOf_mem {h₀ h : Heap} {L : Addr} {p : Addr × Obj} : p ∈ newsOf h₀ L h ↔ h.get? p.1 = some p.2 ∧ p.1 ≠ L ∧ h₀.get? p.1 = none := by
  unfold newsOf
  rw [List.mem_filterMap]
  constructor
  · rintro ⟨b, hb, h1⟩
    by_cases hL : b = L
    · rw [if_pos hL] at h1; cases h1
    · rw [if_neg hL] at h1
      cases h2 : h₀.get? b with
      | some o => rw [h2] at h1; cases h1
      | none =>
        rw [h2] at h1
        cases h3 : h.get? b with
        | none => rw [h3] at h1; cases h1
        | some o => rw [h3] at h1; cases h1; exact ⟨h3, hL, h2⟩
  · rintro ⟨h1, h2, h3⟩
    refine ⟨p.1, List.mem_range.mpr (Heap.lt_size h1), ?_⟩
    rw [if_neg h2, h3, h1]
theorem newsOf_news {h₀ h : Heap} {L : Addr} : News h₀ L h (newsOf h₀ L h) := fun _ hp => newsOf_mem.mp hp
theorem free_message {Pp : Params} {C : Addr} (hC : C = 52 ∨ C = 64) : findIn (hd.heap_39 Pp) (.ref C) (Str.ofString "message") = some none := by
  rcases hC with rfl | rfl <;> k_is
theorem free_spot {Pp : Params} {C : Addr} (hC : C = 52 ∨ C = 64) : findIn (hd.heap_39 Pp) (.ref C) (Str.ofString "spot") = some none := by
  rcases hC with rfl | rfl <;> k_is
set_option maxHeartbeats 8000000 in
theorem fault_made {w : World} {C : Addr} (hC : C = 52 ∨ C = 64) {msg : Str} {tm ts : Tok} {spot : Nat} {loose : List Str} {mean : ExcName → Option Value} {mg mb : Str → Option Value} {dp un : Nat} {gd : Option (List Code)} {cn : Str} {cs : Scope} {a : Addr} {ccd : Value} {cl : List (Str × Addr)} {outer : List Env} {A₀ : Around} {base h₀ : Heap} {L : Addr} {m : Str → Option Value} {s : Shared} {Q E : Value → Shared → Prop} {news : List (Addr × Obj)}
   (B : Below A₀ base outer h₀) (F : Fr h₀ L s.heap m) (X : (hd.heap_39 w.params).In h₀) (N : News h₀ L s.heap news) (T : Top topProg loose mean mg mb h₀) (hk : cs.kind = .function)
   (hd : dp + 2 < recursionLimit) (hu : un + 8 < cLine)
   (hq : ∀ e h' tk' d, (∀ b o, b ≠ L → s.heap.get? b = some o → h'.get? b = some o) → s.heap.get? e = none → Fr h₀ L h' m → ErrAt C spot ts e d s.heap h' → Q (.ref e) { s with heap := h', toks := tk' }) :
   wpAny (model PySem.Challenge.pw_pf0162_01 w) (ktrTop dp un gd cn cs L a ccd cl outer) (call (.ref C) [.str msg tm, .int spot ts]) Q E s := by
  obtain ⟨nm, q, N', bs, hdct, sn, sub, ab, col, dd, k0, k1, k2, k3, k5, hCo⟩ := excCls (X.keeps F.keep) hC
  obtain ⟨oI, hI, hIc⟩ := initFn (X.keeps F.keep)
  obtain ⟨h, g, d, t, os⟩ := s
  refine call_exc_own PySem.F.excBase_Exception rfl rfl rfl hCo (excInit (X.keeps F.keep) hC) hI hIc (by show 2 ≤ sizeLine; decide) fun h' e hm => ?_
  obtain ⟨ta, he, hta, hto⟩ := hm.there
  have F1 := F.keeps hm.keeps
  have N1 : News h₀ L h' ((e, { cls := .ref C, data := .fields #[.ref ta, .none, .none, .none, .bool false, .none] }) :: newsOf h₀ L h) := News.more F1 ((newsOf_news (h₀ := h₀) (L := L) (h := h)).keepsAll hm.keeps) he (fun es n q => by cases q) (by
    cases q : h₀.get? e with
    | none => rfl
    | some o => have := F.keep _ _ q; rw [hm.new] at this; cases this)
  have X1 := X.keeps F1.keep
  have hWe : ∀ p ∈ newsOf h₀ L h, p.1 ≠ e := fun p hp q => by have := (newsOf_mem.mp hp).1; rw [q, hm.new] at this; cases this
  have hWm : ∀ b o, h.get? b = some o → b ≠ L → h₀.get? b = none → (b, o) ∈ newsOf h₀ L h := fun b o x1 x2 x3 => newsOf_mem.mpr ⟨x1, x2, x3⟩
  have hFk := F.keep
  generalize newsOf h₀ L h = W at *
  clear F N
  refine wpAny_call ?_
  k_dflt (refine' code_def ?k1 ?k2 ?k3 ?k4 ?k5 ?kA ?kF ?kK ?k6 ?k7 ?k8 ?k9 ?kB ?_ ?c2 ?c3 ?c4 ?c5; (case kA => exact rfl); (case kF => exact rfl); (case kK => assumption); (case k1 => k_asm); (case k2 => exact F1); (case k3 => k_asm); (case k4 => exact N1); (case k5 => k_asm); (case k6 => k_is); (case k7 => k_is); (case k8 => ktr_room); (case k9 => exact kp_binds X1 (fun _ => rfl)); (case c5 => decide); (case kB => exact locs rfl); (case c2 => exact rfl); (case c3 => exact rfl); (case c4 => exact rfl); k_whole; intro g' L' h' FG' F' N' B' X' T'; (try dsimp only); (try k_lift B'); (try k_fold))
  refine toks_any ?_
  intro tk0
  replace F' : Fr g' L' h' (fun y => List.lookup y [(Str.ofString "spot", .int spot ts), (Str.ofString "message", .str msg tm), (Str.ofString "self", .ref e)]) := F'
  k_steps
  refine Hold.go ?_
  (with_reducible rename Fr _ _ _ _ => F1)
  (with_reducible rename News _ _ _ _ => N1)
  refine init_exc hC F1 X' N1 hWe fun t1 h1 F1 N1 => ?_
  dsimp only
  k_steps
  refine Hold.go ?_
  (with_reducible rename Fr _ _ _ _ => F1)
  (with_reducible rename News _ _ _ _ => N1)
  refine exc_set_first hC F1 X' N1 hWe (free_message hC) (fun tk => by rfl) fun d h2 tk1 tk2 F2 N2 hd1 hd2 => ?_
  dsimp only
  k_steps
  refine Hold.go ?_
  (with_reducible rename Fr _ _ _ _ => F1)
  (with_reducible rename News _ _ _ _ => N1)
  refine exc_set_next hC F1 X' N1 hd1 hd2 (free_spot hC) rfl (by simp; rfl) (fun tk => by rfl) (fun tk => by rfl) fun h2 tk1 tk2 F2 N2 => ?_
  dsimp only
  k_steps
  (with_reducible rename Fr _ _ _ _ => F3)
  (with_reducible rename News _ _ _ _ => N3)
  refine hq e h2 tk2 d ?_ ?_ F3 ⟨_, N3 (e, _) (.head _) |>.1, hm.new, ?_, ?_, _, (N3 (d, _) (.tail _ (.head _))).1, by rfl, _, _, rfl⟩
  · intro b o hb ho
    cases q : h₀.get? b with
    | some o' =>
      have := hFk b o' q
      rw [ho] at this
      cases this
      exact F3.keep _ _ q
    | none => exact (N3 (b, o) (.tail _ (.tail _ (hWm b o ho hb q)))).1
  · exact hm.new
  · cases q : h.get? d with
    | none => rfl
    | some o => exact absurd rfl (hd1 (d, o) (hWm d o q (N3 (d, _) (.tail _ (.head _))).2.1 (by
        cases q2 : h₀.get? d with
        | none => rfl
        | some o' => have := (N3 (d, _) (.tail _ (.head _))).2.2; rw [q2] at this; cases this)))
  · exact hd2
theorem ready_of {w : World} {h₀ : Heap} {L e d : Addr} {C : Addr} {spot : Nat} {ts : Tok} {H : Heap} {m : Str → Option Value} {s₁ : Shared} {ek : Value → Shared → Prop} (hC : C = 52 ∨ C = 64) (X : (hd.heap_39 w.params).In h₀) (F : Fr h₀ L s₁.heap m) (hE : ErrAt C spot ts e d H s₁.heap) (k : ek (.ref e) s₁) :
    ∃ e' C bm nm q N bs hdct sn sub ab col dd k0 k1 k2 k3 k5 newId, ∃ (oe : Obj) (a0 : Value), Value.ref e = .ref e' ∧ s₁.heap.get? C = some (excClassObj nm q C N bs bm hdct sn sub ab col dd k0 k1 k2 k3 k5 newId) ∧
      bm.contains (.type "BaseException") = true ∧ s₁.heap.get? e' = some { oe with cls := .ref C, data := .fields #[a0, .none, .none, .none, .bool false, .none] } ∧ ek (.ref e') s₁ := by
  obtain ⟨nm, q, N', bs, hdct, sn, sub, ab, col, dd, k0, k1, k2, k3, k5, hCo⟩ := excCls (X.keeps F.keep) hC
  obtain ⟨a0, he, _⟩ := hE
  exact ⟨e, C, _, nm, q, N', bs, hdct, sn, sub, ab, col, dd, k0, k1, k2, k3, k5, _, errObj C d, a0, rfl, hCo, rfl, he, k⟩
end
section
def codes (s : String) : List Nat := s.toList.map Char.toNat
abbrev intKinds : List (List Nat) := [[105, 56], [105, 49, 54], [105, 51, 50], [105, 54, 52], [117, 56], [117, 49, 54], [117, 51, 50], [117, 54, 52], [117, 115, 105, 122, 101]]
theorem any_S (ys : List (List Nat)) (x : List Nat) : (ys.map S).any (· == S x) = decide (x ∈ ys) := by
  induction ys with
  | nil => simp
  | cons y r ih =>
    rw [List.map_cons, List.any_cons, ih]
    have : (S y == S x) = decide (y = x) := by
      by_cases h : y = x
      · simp [h]
      · have : S y ≠ S x := fun e => h (congrArg (fun s : PySem.Str => s.cps.toList) e)
        simp [h]
    rw [this]
    by_cases h : y = x
    · subst h; simp
    · have : ¬ x = y := fun e => h e.symm
      simp [h, this]
theorem strsAre_of {vs : List Value} {ys : List PySem.Str} (h : StrsAre vs ys) {zs : List PySem.Str} (e : ys = zs) : StrsAre vs zs := e ▸ h
theorem kinds_at {w : World} {h : Heap} (X : (hd.heap_39 w.params).In h) : ∃ vs : List Value, IsTup h 67 ⟨vs⟩ ∧ StrsAre vs (intKinds.map S) := by
  refine ⟨_, ⟨_, X 67 _ (by k_is), rfl, _, rfl⟩, strsAre_of (by repeat constructor) ?_⟩
  decide +kernel
abbrev keywords : List (List Nat) := (["_", "Self", "as", "break", "const", "continue", "crate", "else", "enum", "false", "fn", "for", "if", "impl", "in", "let", "loop", "match", "mod", "mut", "pub", "ref", "return", "self", "struct", "super", "trait", "true", "use", "while"] : List String).map codes
theorem keywords_at {w : World} {h : Heap} (X : (hd.heap_39 w.params).In h) : ∃ vs : List Value, IsTup h 68 ⟨vs⟩ ∧ StrsAre vs (keywords.map S) := by
  refine ⟨_, ⟨_, X 68 _ (by k_is), rfl, _, rfl⟩, strsAre_of (by repeat constructor) ?_⟩
  decide +kernel
section
variable {prog : Program} {w : World} {A : Around} {E : Value → Shared → Prop} {s : Shared} {t : Tok} {Q : Value → Shared → Prop} {x : List Nat}
theorem r_notin_kinds (X : (hd.heap_39 w.params).In s.heap) (h : Q (.bool (!decide (x ∈ intKinds))) s) : wpAny (model prog w) A (compareOp .NotIn (.str (S x) t) (.ref 67)) Q E s := by
  obtain ⟨vs, ht, hi⟩ := kinds_at X
  exact notin_tuple_strs ht hi (by rw [any_S]; exact h)
theorem r_in_keywords (X : (hd.heap_39 w.params).In s.heap) (h : Q (.bool (decide (x ∈ keywords))) s) : wpAny (model prog w) A (compareOp .In (.str (S x) t) (.ref 68)) Q E s := by
  obtain ⟨vs, ht, hi⟩ := keywords_at X
  exact in_tuple_strs ht hi (by rw [any_S]; exact h)
end
end
section
open PySem.Builtin
def FEnd {σ : Type} (h₀ : Heap) (L : Addr) (s : Shared) (led : List (Addr × Obj) → σ → List (Addr × Obj)) (ps : σ → List (PySem.Str × Value)) (P : σ → Prop) (own : List (Addr × Obj)) (s₂ : Shared) : Prop :=
  ∃ (c' : σ) (h' : Heap) (tk : Nat) (m' : PySem.Str → Option Value) (news' : List (Addr × Obj)), s₂ = { s with heap := h', toks := tk } ∧ Fr h₀ L h' m' ∧ News h₀ L h' news' ∧ (∀ p ∈ led own c', p ∈ news') ∧ (∀ p ∈ ps c', m' p.1 = some p.2) ∧ P c'
def FPost {σ : Type} (h₀ : Heap) (L : Addr) (s : Shared) (led : List (Addr × Obj) → σ → List (Addr × Obj)) (ps : σ → List (PySem.Str × Value)) (P : σ → Prop) (own : List (Addr × Obj)) (Q : Flow → Shared → Prop) (f : Flow) (s₂ : Shared) : Prop :=
  match f with
  | .ret v => Q (.ret v) s₂
  | .brk => Q .next s₂
  | _ => FEnd h₀ L s led ps P own s₂
theorem FEnd.intro {σ : Type} {h₀ : Heap} {L : Addr} {s : Shared} {led : List (Addr × Obj) → σ → List (Addr × Obj)} {ps : σ → List (PySem.Str × Value)} {m' : PySem.Str → Option Value} {P : σ → Prop} {own : List (Addr × Obj)} {h' : Heap} {tk : Nat} {news' : List (Addr × Obj)} (c' : σ)
    (F : Fr h₀ L h' m') (N : News h₀ L h' news') (hn : ∀ p ∈ led own c', p ∈ news') (h1 : ∀ p ∈ ps c', m' p.1 = some p.2) (hp : P c') :
    FEnd h₀ L s led ps P own { s with heap := h', toks := tk } := ⟨c', h', tk, m', news', rfl, F, N, hn, h1, hp⟩
/-- a for: `ps` tells every name that is asked later, `led` the ledger (its addresses stood before the loop) -/
theorem fr_at {prog : Program} {w : World} {A : Around} {E : Value → Shared → Prop} {Q : Flow → Shared → Prop} {s : Shared} {env : Env} {h₀ : Heap} {x : PySem.Str} {body : List Stmt}
    {σ : Type} {I : Addr} {fp : List Addr} {n : Nat} {Pv : Nat → Value → Prop} {St : Nat → Heap → Prop} {m₀ : PySem.Str → Option Value} {news₀ : List (Addr × Obj)}
    (led : Nat → σ → List (Addr × Obj)) (ps : Nat → σ → List (PySem.Str × Value)) (P : Nat → σ → Prop) (c₀ : σ)
    (W : Walks prog w A I fp [I] n Pv St) (hI : h₀.get? I = none) (hfp : ∀ b ∈ fp, b = I ∨ ∃ o, h₀.get? b = some o) (hLf : env.locals ∉ fp) (hst : St 0 s.heap)
    (F : Fr h₀ env.locals s.heap m₀) (N : News h₀ env.locals s.heap news₀) (hnI : ∀ p ∈ news₀, p.1 ≠ I) (hn : ∀ p ∈ led 0 c₀, p ∈ news₀) (hk : ∀ p ∈ ps 0 c₀, m₀ p.1 = some p.2) (hp : P 0 c₀)
    (hsub : ∀ i c, P i c → ∀ p ∈ led i c, ∃ q ∈ news₀, q.1 = p.1) (hx : ∀ i c, ∀ p ∈ ps i c, p.1 ≠ x)
    (turn : ∀ i v (c : σ) own u h tk, i < n → Pv i v → P i c → Fr h₀ env.locals h (put ((x, v) :: ps i c) u) → News h₀ env.locals h (led i c ++ own) → (∀ p ∈ led i c, ∀ q ∈ own, q.1 ≠ p.1) →
      wpAny (model prog w) A (execs body env) (FPost h₀ env.locals s (fun own c => led (i + 1) c ++ own) (ps (i + 1)) (P (i + 1)) own Q) E { s with heap := h, toks := tk })
    (done : ∀ (c : σ) u h tk, P n c → Fr h₀ env.locals h (put (ps n c) u) → News h₀ env.locals h (led n c) → Q .next { s with heap := h, toks := tk }) :
    LoopAtV prog w A h₀ env x body Q E (.ref I) s := by
  refine ⟨I, fp, [I], n, Pv, St, m₀, led 0 c₀, fun i m nx => ∃ c, nx = led i c ∧ (∀ p ∈ ps i c, m p.1 = some p.2) ∧ P i c, rfl, W, hLf, fun b hb => by rw [List.mem_singleton.mp hb]; exact hI,
    fun p hp hm => hnI p (hn p hp) (List.mem_singleton.mp hm), hst, F, fun p hp => N p (hn p hp), ⟨c₀, rfl, hk, hp⟩, ?_, ?_⟩
  · rintro i v m₁ nx s₁ own ⟨h, tk, rfl⟩ hi hP ⟨c, rfl, hm, hpc⟩ hoff hown hat hmem hst₁ F₁ N₁
    have e : (fun y => if y = x then some v else m₁ y) = put ((x, v) :: ps i c) m₁ := put_ext (m := m₁) (fun p hp => by
      rcases List.mem_cons.mp hp with rfl | hp
      · exact if_pos rfl
      · rw [if_neg (hx i c p hp)]
        exact hm p hp) fun y hy => if_neg (hy _ (.head _))
    rw [e] at F₁
    refine wpAny_mono (turn i v c own m₁ h tk hi hP hpc F₁ (fun p hp => N₁ p (List.mem_append.mpr (List.mem_append.mp hp).symm)) (fun p hp q hq z => ?_)) (fun f s₃ q => ?_) fun _ _ y => y
    · have h1 := hown q hq
      rcases hfp _ h1 with h2 | ⟨o, h2⟩
      · exact hoff p hp (by rw [← z, h2]; exact .head _)
      · have := (N₁ q (List.mem_append_left _ hq)).2.2
        rw [h2] at this; cases this
    · have key : FEnd h₀ env.locals s (fun own c => led (i + 1) c ++ own) (ps (i + 1)) (P (i + 1)) own s₃ → LoopStepU h₀ env.locals [I] own (fun m nx => ∃ c, nx = led (i + 1) c ∧ (∀ p ∈ ps (i + 1) c, m p.1 = some p.2) ∧ P (i + 1) c) { s with heap := h, toks := tk } .next s₃ := by
        rintro ⟨c', h', tk', m', news', rfl, F', N', hn', hm', hp'⟩
        refine ⟨rfl, h', tk', m', led (i + 1) c', rfl, F', fun p hp => N' p (hn' p (List.mem_append.mpr (List.mem_append.mp hp).symm)), fun p hp hm => ?_, c', rfl, hm', hp'⟩
        obtain ⟨q, hq, hqe⟩ := hsub _ _ hp' p hp
        exact hnI q hq (by rw [hqe]; exact List.mem_singleton.mp hm)
      cases f with
      | ret v => exact q
      | brk => exact q
      | next => exact key q
      | cont => exact key q
  · rintro h' tk m' nx F' N' _ ⟨c, rfl, hm, hpc⟩
    rw [← put_same hm] at F'
    exact done c m' h' tk hpc F' N'
/-- over a tuple of the globals' -/
theorem fr_tup {prog : Program} {w : World} {A : Around} {E : Value → Shared → Prop} {Q : Flow → Shared → Prop} {s : Shared} {env : Env} {h₀ : Heap} {x : PySem.Str} {body : List Stmt}
    {σ : Type} {t : Addr} {items : Array Value} {m₀ : PySem.Str → Option Value} {news₀ : List (Addr × Obj)}
    (led : Nat → σ → List (Addr × Obj)) (ps : Nat → σ → List (PySem.Str × Value)) (P : Nat → σ → Prop) (c₀ : σ)
    (hh : A.handled = none) (ht : IsTup h₀ t items)
    (F : Fr h₀ env.locals s.heap m₀) (N : News h₀ env.locals s.heap news₀) (hn : ∀ p ∈ led 0 c₀, p ∈ news₀) (hk : ∀ p ∈ ps 0 c₀, m₀ p.1 = some p.2) (hp : P 0 c₀)
    (hsub : ∀ i c, P i c → ∀ p ∈ led i c, ∃ q ∈ news₀, q.1 = p.1) (hx : ∀ i c, ∀ p ∈ ps i c, p.1 ≠ x)
    (turn : ∀ i v (c : σ) own u h tk, items[i]? = some v → P i c → Fr h₀ env.locals h (put ((x, v) :: ps i c) u) → News h₀ env.locals h (led i c ++ own) → (∀ p ∈ led i c, ∀ q ∈ own, q.1 ≠ p.1) →
      wpAny (model prog w) A (execs body env) (FPost h₀ env.locals s (fun own c => led (i + 1) c ++ own) (ps (i + 1)) (P (i + 1)) own Q) E { s with heap := h, toks := tk })
    (done : ∀ (c : σ) u h tk, P items.size c → Fr h₀ env.locals h (put (ps items.size c) u) → News h₀ env.locals h (led items.size c) → Q .next { s with heap := h, toks := tk }) :
    wpAny (model prog w) A (pyIter (.ref t)) (fun it s₂ => LoopAtV prog w A h₀ env x body Q E it s₂) E s := by
  have ht' : s.heap.IsTuple t items := Heap.IsTuple.at ht fun o e => F.keep t o e
  obtain ⟨ot, hot, _⟩ := id ht
  have hlt : t < s.heap.objs.size := by obtain ⟨_, e, _⟩ := ht'; exact Heap.lt_size e
  refine wpAny_pyIter_tuple ht' ?_
  refine fr_at (m₀ := m₀) (news₀ := news₀) led ps P c₀ (Walks.tuple hh s.heap.objs.size t (Nat.ne_of_lt hlt) items) (Heap.get?_none_of_le (Nat.le_of_lt (Nat.lt_of_le_of_lt F.above F.ns.lt))) (fun b hb => ?_) ?_
    ⟨⟨_, Heap.get?_push_size _ rfl, rfl, rfl⟩, ht'.at fun o e => Heap.get?_push_of_some _ e⟩ (F.push _) (fun p hp => ⟨Heap.get?_push_of_some _ (N p hp).1, (N p hp).2⟩) (fun p hp => Nat.ne_of_lt (Heap.lt_size (N p hp).1)) hn hk hp hsub hx ?_ ?_
  · rcases List.mem_cons.mp hb with e | hb
    · exact .inl e
    · rw [List.mem_singleton.mp hb]; exact .inr ⟨ot, hot⟩
  · intro hm
    rcases List.mem_cons.mp hm with e | hm
    · exact absurd F.ns.lt (e ▸ Nat.lt_irrefl _)
    · exact absurd (Nat.lt_of_lt_of_le (Heap.lt_size hot) F.above) ((List.mem_singleton.mp hm) ▸ Nat.lt_irrefl _)
  · intro i v c own u h tk hi hP hpc F₁ N₁ hs
    exact turn i v c own u h tk hP hpc F₁ N₁ hs
  · exact done
/-- over a range -/
theorem fr_range {prog : Program} {w : World} {A : Around} {E : Value → Shared → Prop} {Q : Flow → Shared → Prop} {s : Shared} {env : Env} {h₀ : Heap} {x : PySem.Str} {body : List Stmt}
    {σ : Type} {r : Addr} {n : Nat} {t₀ u₀ v₀ : Tok} {m₀ : PySem.Str → Option Value} {news₀ : List (Addr × Obj)}
    (led : Nat → σ → List (Addr × Obj)) (ps : Nat → σ → List (PySem.Str × Value)) (P : Nat → σ → Prop) (c₀ : σ)
    (hh : A.handled = none) (hr : IsRange s.heap r 0 n 1 t₀ u₀ v₀) (hsmall : Builtin.Range.small 0 n 1 = true)
    (F : Fr h₀ env.locals s.heap m₀) (N : News h₀ env.locals s.heap news₀) (hn : ∀ p ∈ led 0 c₀, p ∈ news₀) (hk : ∀ p ∈ ps 0 c₀, m₀ p.1 = some p.2) (hp : P 0 c₀)
    (hsub : ∀ i c, P i c → ∀ p ∈ led i c, ∃ q ∈ news₀, q.1 = p.1) (hx : ∀ i c, ∀ p ∈ ps i c, p.1 ≠ x)
    (turn : ∀ i t (c : σ) own u h tk, i < n → P i c → Fr h₀ env.locals h (put ((x, .int (i : Nat) t) :: ps i c) u) → News h₀ env.locals h (led i c ++ own) → (∀ p ∈ led i c, ∀ q ∈ own, q.1 ≠ p.1) →
      wpAny (model prog w) A (execs body env) (FPost h₀ env.locals s (fun own c => led (i + 1) c ++ own) (ps (i + 1)) (P (i + 1)) own Q) E { s with heap := h, toks := tk })
    (done : ∀ (c : σ) u h tk, P n c → Fr h₀ env.locals h (put (ps n c) u) → News h₀ env.locals h (led n c) → Q .next { s with heap := h, toks := tk }) :
    wpAny (model prog w) A (pyIter (.ref r)) (fun it s₂ => LoopAtV prog w A h₀ env x body Q E it s₂) E s := by
  refine wpAny_pyIter_range hr hsmall ?_
  have W : Walks prog w A s.heap.objs.size [s.heap.objs.size] [s.heap.objs.size] n (fun i v => i < n ∧ ∃ t, v = .int ((0 : Int) + i * 1) t)
      (fun i h => IsRangeIter h s.heap.objs.size ((0 : Int) + (i : Nat) * 1) ((n : Int) - (i : Nat)) 1) := (Walks.range hh _ 0 1 n).bound
  refine fr_at (m₀ := m₀) (news₀ := news₀) led ps P c₀ W (next_is_new F) (fun b hb => .inl (List.mem_singleton.mp hb)) (fun hm => absurd F.ns.lt ((List.mem_singleton.mp hm) ▸ Nat.lt_irrefl _))
    ?_ (F.push _) (fun p hp => ⟨Heap.get?_push_of_some _ (N p hp).1, (N p hp).2⟩) (fun p hp => Nat.ne_of_lt (Heap.lt_size (N p hp).1)) hn hk hp hsub hx ?_ ?_
  · show IsRangeIter _ _ _ _ _
    have : Builtin.Range.rangeSize 0 n 1 = (n : Int) := by unfold Builtin.Range.rangeSize; simp; omega
    rw [this]; simpa using Heap.get?_push_size _ rfl
  · rintro i v c own u h tk hi ⟨_, t, rfl⟩ hpc F₁ N₁ hs
    refine turn i t c own u h tk hi hpc ?_ N₁ hs
    simpa using F₁
  · exact done
end
section
set_option maxHeartbeats 8000000 in
theorem figure_worth_gives {w : World} {c : Nat} {t1 : Tok} (hc : c < 128) :
   Gives w 1 8 97 [.str (S [c]) t1] (fun t => .int (figureWorth c : Nat) t) := by
  intro loose mean mg mb dp un gd cn cs a ccd cl outer A₀ base h₀ L m s Q E news B F X N T hk hd hu hret
  refine wpAny_call ?_
  k_dflt cell_enter
  rename_i g L' h' FG F' N' B' X' T'
  replace F' : Fr g L' h' (fun y => List.lookup y [(Str.ofString "sign", .str (S [c]) t1)]) := F'
  k_steps
  · refine cb_retI (Q := Q) hret ?_ (by assumption) (by assumption)
    split at * <;> omega
  · refine cb_retI (Q := Q) hret ?_ (by assumption) (by assumption)
    split at * <;> omega
end
section
local macro_rules | `(tactic| walk_at "call ref") => `(tactic| ((with_reducible show wpAny _ _ (call (Value.ref 76) _) _ _ _); k_dflt (refine' run_end_gives ?q1 ?q2 ?k1 ?k2 ?k3 ?k4 ?k5 ?kK ?kd ?ku ?_; (case k1 | k2 | k3 | k4 | k5 => k_asm); (case kK => walk_at "ra"); (case kd | ku => walk_at "kd"); (case q1 | q2 => walk_at "ao")); intro t9 h9 tk9 F9 N9; (try dsimp only); (try k_fold)))
local macro_rules | `(tactic| walk_at "call ref") => `(tactic| ((with_reducible show wpAny _ _ (call (Value.ref 104) _) _ _ _); (with_reducible rename News _ _ _ _ => N'); k_dflt (refine' base_at_says ?q1 ?q2 ?k1 ?k2 ?k3 ?k4 ?k5 ?kK ?kd ?ku ?ks ?_; (case k1 | k2 | k3 => k_asm); (case k4 => exact N'); (case k5 => k_asm); (case kK => walk_at "ra"); (case kd | ku => walk_at "kd"); (case ks => exact fun _ h => nomatch h); (case q1 | q2 => walk_at "ao")); intro r9 led9 h9 tk9 O9 F9 N9; obtain ⟨a9, ta9, tb9, e9, l9, f9⟩ := O9; subst e9; subst f9; (try k_lt l9); (try dsimp only); (try simp only [List.cons_append, List.nil_append] at N9); (try k_fold)))
local macro_rules | `(tactic| walk_at "call ref") => `(tactic| ((with_reducible show wpAny _ _ (call (Value.ref 97) _) _ _ _); k_dflt (refine' figure_worth_gives ?q1 ?k1 ?k2 ?k3 ?k4 ?k5 ?kK ?kd ?ku ?_; (case k1 | k2 | k3 | k4 | k5 => k_asm); (case kK => walk_at "ra"); (case kd | ku => walk_at "kd"); (case q1 => walk_at "ao")); intro t9 h9 tk9 F9 N9; (try dsimp only); (try k_fold)))
local macro_rules | `(tactic| walk_at "compareOp NotIn str ref") => `(tactic| ((with_reducible show wpAny _ _ (compareOp CmpOp.NotIn (Value.str (S _) _) (Value.ref 67)) _ _ _); (with_reducible rename Fr _ _ _ _ => F'); refine r_notin_kinds (Frag.In.keeps (by assumption) F'.keep) ?_))
local macro_rules | `(tactic| walk_at $k:str) => if ["exec Raise", "exec Raise some Call none", "exec Raise some none"].contains k.getString then `(tactic| refine Hold.out ?_) else Lean.Macro.throwUnsupported
theorem baseOf_range (l : List Nat) : 2 ≤ baseOf l ∧ baseOf l ≤ 16 := by
  unfold baseOf; repeat' split
  all_goals omega
structure Row where
  kind : List Nat
  text : List Nat
  spot : Nat
  value : Option Nat
  knd : Option (List Nat)
def optInt : Option Nat → Tok → Value
  | none, _ => .none
  | some v, t => .int v t
def optStr : Option (List Nat) → Tok → Value
  | none, _ => .none
  | some v, t => .str (S v) t
def RowIs (r : Row) (vs : List Value) : Prop := ∃ t1 t2 t3 t4 t5, vs = [.str (S r.kind) t1, .str (S r.text) t2, .int r.spot t3, optInt r.value t4, optStr r.knd t5]
/-- a reader's answer: the word, and the place behind it -/
def WordOut (row : Row) (j : Nat) (news : List (Addr × Obj)) (r : Value) (led : List (Addr × Obj)) : Prop :=
  ∃ ao ai vs te, r = .ref ao ∧ (∀ q ∈ news, q.1 < ai) ∧ ai < ao ∧ RowIs row vs ∧ led = [(ao, tupObj [.ref ai, .int j te]), (ai, tupObj vs)]
def nameSigns : List Nat := codes "abcdefghijklmnopqrstuvwxyzABCDEFGHIJKLMNOPQRSTUVWXYZ_0123456789"
theorem lit_names : cpsOfBytes 0 0 "abcdefghijklmnopqrstuvwxyzABCDEFGHIJKLMNOPQRSTUVWXYZ_0123456789".toByteArray.data.toList = nameSigns := by decide +kernel
theorem lit_us : (PySem.Str.ofString "_").1.toList = [95] := by decide +kernel
theorem lit_nil : (PySem.Str.ofString "").1.toList = [] := by decide +kernel
theorem lit_int : PySem.Str.ofString "int" = S (codes "int") := by decide +kernel
theorem getD_drop (l : List Nat) (a k : Nat) : (l.drop a).getD k 0 = l.getD (a + k) 0 := by simp [List.getD]
structure IntAt (text : List Nat) (b : Nat) (figs kind : List Nat) (bs e : Nat) : Prop where
  bs_ : bs = baseOf ((text.drop b).take 2)
  figs_ : figs = figsAt bs text (b + headLen ((text.drop b).take 2))
  one : 1 ≤ manyOf figs
  e_ : e = runEnd text nameSigns (b + headLen ((text.drop b).take 2) + figs.length)
  kind_ : kind = (text.drop (b + headLen ((text.drop b).take 2) + figs.length)).take (e - (b + headLen ((text.drop b).take 2) + figs.length))
  ok : kind = [] ∨ kind ∈ intKinds
def intRow (text : List Nat) (b : Nat) (figs kind : List Nat) (bs e : Nat) : Row := ⟨codes "int", (text.drop b).take (e - b), b, some (valOf bs figs), if kind = [] then none else some kind⟩
set_option maxHeartbeats 8000000 in
theorem read_int_says {w : World} {text : List Nat} {b : Nat} {t1 t2 : Tok} {figs kind : List Nat} {bs e : Nat} (hl : text.length ≤ 1000000) (h1 : b + headLen ((text.drop b).take 2) ≤ text.length) (ha : ∀ c ∈ text, c < 128) (I : IntAt text b figs kind bs e) :
   SaysX w 4 24 111 [.str (S text) t1, .int b t2] [] (fun news r led => manyOf figs ≤ 40 ∧ WordOut (intRow text b figs kind bs e) e news r led) (fun C spot => C = 52 ∧ spot = b ∧ 40 < manyOf figs) := by
  intro loose mean mg mb dp un gd cn cs a ccd cl outer A₀ base h₀ L m s Q E news B F X N T hk hd hu hsep hret hthrow
  rw [List.nil_append] at N
  refine wpAny_call ?_
  k_dflt cell_enter
  refine toks_any ?_
  intro tk0
  rename_i g L' h' FG F' N' B' X' T'
  replace F' : Fr g L' h' (fun y => List.lookup y [(Str.ofString "begin", .int b t2), (Str.ofString "text", .str (S text) t1)]) := F'
  have hbr := baseOf_range ((text.drop b).take 2)
  have hb1 : b ≤ text.length := by omega
  k_steps
  refine Hold.go ?_
  obtain ⟨hbs, hfigs, hone, he, hkind, hok⟩ := I
  subst hbs
  generalize baseOf ((text.drop b).take 2) = bs at *
  generalize b + headLen ((text.drop b).take 2) = a0 at *
  (with_reducible rename Fr _ _ _ _ => F1); (with_reducible rename News _ _ _ _ => N1)
  refine wh2 (fun _ => news) (fun (c : (Nat × Nat × Nat) × Tok × Tok × Tok × Tok) => [(Str.ofString "at", .int c.1.1 c.2.1), (Str.ofString "value", .int c.1.2.1 c.2.2.1), (Str.ofString "many", .int c.1.2.2 c.2.2.2.1), (Str.ofString "base", .int bs c.2.2.2.2), (Str.ofString "begin", .int b t2), (Str.ofString "text", .str (S text) t1)])
    (fun c => ∃ k, k ≤ figs.length ∧ c.1.1 = a0 + k ∧ c.1.2.1 = valOf bs (figs.take k) ∧ c.1.2.2 = manyOf (figs.take k)) (fun c => c.1.1 = a0 + figs.length ∧ c.1.2.1 = valOf bs figs ∧ c.1.2.2 = manyOf figs) (fun c => text.length - c.1.1) ((a0, 0, 0), _, _, _, _) F1 N1
    (sub_skip (sub_skip sub_self)) (allc rfl (allc rfl (allc rfl (allc rfl (allc rfl (all1 rfl)))))) ⟨0, Nat.zero_le _, rfl, rfl, rfl⟩ ?turn ?done (by passes_own)
  case turn =>
    rintro ⟨⟨i, v, n⟩, ti, tv, tn, tbs⟩ u h₁ tk₁ ⟨k, hk1, hi, hv, hn⟩ F₁ N₁
    clear F1 N1
    dsimp only at hi hv hn F₁ N₁ ⊢
    have hfl : figs.length ≤ text.length - a0 := by
      rw [hfigs]
      have := List.IsPrefix.length_le (List.takeWhile_prefix (isFig bs) (l := text.drop a0))
      rwa [List.length_drop] at this
    have hile : i ≤ text.length := by omega
    have hci : text.getD i 0 < 128 := by
      by_cases h : i < text.length
      · simp only [List.getD, h, List.getElem?_eq_getElem, Option.getD_some]; exact ha _ (List.getElem_mem h)
      · simp [List.getD, h]
    obtain ⟨hfig, hsn⟩ : (k < figs.length ↔ i < text.length ∧ isFig bs (text.getD i 0) = true) ∧ (k < figs.length → figs.take (k + 1) = figs.take k ++ [text.getD i 0]) := by
      have hat := figs_at (bs := bs) (l := text.drop a0) (k := k) (by rw [hfigs] at hk1; exact hk1)
      rw [getD_drop, ← hi, List.length_drop, show List.takeWhile (isFig bs) (text.drop a0) = figs from hfigs.symm] at hat
      exact ⟨⟨fun h => ⟨by have := (hat.1.mp h).1; omega, (hat.1.mp h).2⟩, fun h => hat.1.mpr ⟨by omega, h.2⟩⟩, hat.2⟩
    (try k_fold)
    k_steps
    · have e1 : [text.getD i 0] = (Str.ofString "_").1.toList := by assumption
      have e2 : (i : Int) < (text.length : Int) := by assumption
      rw [lit_us] at e1
      have e3 := List.cons.inj e1 |>.1
      have hk2 := hfig.mpr ⟨by omega, by rw [e3]; rfl⟩
      rename Fr _ _ _ _ => F2
      rename News _ _ _ _ => N2
      refine WEnd.intro ((i + 1, v, n), _, _, _, _) F2 N2 sub_self (allc rfl (allc rfl (allc rfl (allc rfl (allc rfl (all1 rfl)))))) ⟨k + 1, hk2, by show i + 1 = _; omega, ?_, ?_⟩ (by show text.length - (i + 1) < text.length - i; omega)
      · show v = _
        rw [hsn hk2, valOf_snoc, if_pos e3, hv]
      · show n = _
        rw [hsn hk2, manyOf_snoc, if_pos e3, hn]
    · have e1 : ¬ [text.getD i 0] = (Str.ofString "_").1.toList := by assumption
      have e2 : (i : Int) < (text.length : Int) := by assumption
      have e4 : (figureWorth (text.getD i 0) : Int) < (bs : Int) := by assumption
      rw [lit_us] at e1
      have e3 : ¬ text.getD i 0 = 95 := fun z => e1 (by rw [z])
      have hk2 := hfig.mpr ⟨by omega, by unfold isFig; rw [decide_eq_true (show figureWorth (text.getD i 0) < bs by omega), Bool.or_true]⟩
      rename Fr _ _ _ _ => F2
      rename News _ _ _ _ => N2
      refine WEnd.intro ((i + 1, v * bs + figureWorth (text.getD i 0), n + 1), _, _, _, _) F2 N2 (sub_skip sub_self) (allc rfl (allc rfl (allc rfl (allc rfl (allc rfl (all1 rfl)))))) ⟨k + 1, hk2, by show i + 1 = _; omega, ?_, ?_⟩ (by show text.length - (i + 1) < text.length - i; omega)
      · show v * bs + figureWorth (text.getD i 0) = _
        rw [hsn hk2, valOf_snoc, if_neg e3, hv]
      · show n + 1 = _
        rw [hsn hk2, manyOf_snoc, if_neg e3, hn]
    · have e1 : ¬ [text.getD i 0] = (Str.ofString "_").1.toList := by assumption
      have e4 : ¬ (figureWorth (text.getD i 0) : Int) < (bs : Int) := by assumption
      rw [lit_us] at e1
      have e3 : ¬ text.getD i 0 = 95 := fun z => e1 (by rw [z])
      have hk2 : k = figs.length := by
        rcases Nat.lt_or_ge k figs.length with h | h
        · have := (hfig.mp h).2
          unfold isFig at this
          rw [decide_eq_false (show ¬ figureWorth (text.getD i 0) < bs by omega), Bool.or_false, beq_iff_eq] at this
          exact absurd this e3
        · omega
      rw [hk2, List.take_length] at hv hn
      rename Fr _ _ _ _ => F2
      rename News _ _ _ _ => N2
      exact WOut.intro ((i, v, n), _, _, _, _) F2 N2 sub_self (allc rfl (allc rfl (allc rfl (allc rfl (allc rfl (all1 rfl)))))) ⟨by rw [hi, hk2], hv, hn⟩
    · have e2 : ¬ (i : Int) < (text.length : Int) := by assumption
      have hk2 : k = figs.length := by
        rcases Nat.lt_or_ge k figs.length with h | h
        · have := (hfig.mp h).1; omega
        · omega
      rw [hk2, List.take_length] at hv hn
      rename Fr _ _ _ _ => F2
      rename News _ _ _ _ => N2
      exact WOut.intro ((i, v, n), _, _, _, _) F2 N2 sub_self (allc rfl (allc rfl (allc rfl (allc rfl (allc rfl (all1 rfl)))))) ⟨by rw [hi, hk2], hv, hn⟩
  case done =>
    rintro ⟨⟨i, v, n⟩, ti, tv, tn, tbs⟩ u h₁ tk₁ ⟨hi, hv, hn⟩ F₁ N₁
    clear F1 N1
    dsimp only at hi hv hn F₁ N₁ ⊢
    subst hi hv hn
    have hfl : a0 + figs.length ≤ text.length := by
      rw [hfigs]
      have := List.IsPrefix.length_le (List.takeWhile_prefix (isFig bs) (l := text.drop a0))
      rw [List.length_drop] at this
      show a0 + (List.takeWhile (isFig bs) (text.drop a0)).length ≤ _
      omega
    (try k_fold)
    k_steps
    · have e1 : ((manyOf figs : Nat) : Int) = 0 := by assumption
      exfalso; omega
    · refine Hold.go ?_
      refine raise_ready rfl ?_
      k_steps
      refine Hold.go ?_
      have e1 : (40 : Int) < ((manyOf figs : Nat) : Int) := by assumption
      (with_reducible rename Fr _ _ _ _ => F2); (with_reducible rename News _ _ _ _ => N2)
      refine fault_made (.inl rfl) B' F2 X' N2 T' rfl (by first | ktr_room | omega) (by first | ktr_units | omega) fun e3 h3 tk3 d3 hk3 he3 F3 hE3 => ?_
      refine ready_of (.inl rfl) X' F3 hE3 ?_
      show wpAny _ _ (leaving _ _) _ _ _
      refine thrown_raise B' F2 N2 hk3 F3 hE3 rfl rfl fun h4 R4 sm4 => ?_
      exact hthrow 52 b e3 _ h4 _ ⟨rfl, rfl, by omega⟩ FG R4 sm4
    · have e1 : ¬ (40 : Int) < ((manyOf figs : Nat) : Int) := by assumption
      simp only [lit_names, lit_nil, ← he, ← hkind] at *
      have e2 : kind = [] := by assumption
      rename News h₀ _ _ _ => N2
      rename Fr h₀ _ _ _ => F2
      rename (_ ∧ AllLt _ _) => l2
      refine hret _ _ _ _ ⟨by omega, _, _, _, _, rfl, ?_, ?_, ?_, rfl⟩ F2 N2
      · first | assumption | exact ktn_ltOf (by assumption)
      · exact l2.1
      exact ⟨_, _, _, _, 0, by rw [lit_int]; simp only [intRow, e2]; rfl⟩
    · have e1 : ¬ (40 : Int) < ((manyOf figs : Nat) : Int) := by assumption
      simp only [lit_names, lit_nil, ← he, ← hkind] at *
      have e2 : ¬ kind = [] := by assumption
      rename News h₀ _ _ _ => N2
      rename Fr h₀ _ _ _ => F2
      rename (_ ∧ AllLt _ _) => l2
      refine hret _ _ _ _ ⟨by omega, _, _, _, _, rfl, ?_, ?_, ?_, rfl⟩ F2 N2
      · first | assumption | exact ktn_ltOf (by assumption)
      · exact l2.1
      exact ⟨_, _, _, _, _, by rw [lit_int]; simp only [intRow, if_neg e2]; rfl⟩
    · simp only [lit_names, lit_nil, ← he, ← hkind] at *
      have e2 : ¬ kind = [] := by assumption
      have e3 : ¬ kind ∈ intKinds := by assumption
      exact absurd (hok.resolve_left e2) e3
end
section
local macro_rules | `(tactic| walk_at "FPost") => `(tactic| dsimp only [FPost])
local macro_rules | `(tactic| walk_at $k:str) => if ["exec Raise", "exec Raise some Call none", "exec Raise some none"].contains k.getString then `(tactic| refine Hold.out ?_) else Lean.Macro.throwUnsupported
abbrev signs : List (List Nat) := (["<<=", ">>=", "..=", "::", "->", "=>", "==", "!=", "<=", ">=", "&&", "||", "<<", ">>", "..", "+=", "-=", "*=", "/=", "%=", "&=", "|=", "^=", "(", ")", "{", "}", "[", "]", ",", ";", ":", ".", "=", "<", ">", "+", "-", "*", "/", "%", "&", "|", "^", "!", "@"] : List String).map codes
abbrev angles : List (List Nat) := [[62], [62, 62], [62, 61], [62, 62, 61]]
theorem signs_at {w : World} {h : Heap} (X : (hd.heap_39 w.params).In h) : ∃ vs : List Value, IsTup h 69 ⟨vs⟩ ∧ StrsAre vs (signs.map S) := by
  refine ⟨_, ⟨_, X 69 _ (by k_is), rfl, _, rfl⟩, strsAre_of (by repeat constructor) ?_⟩
  decide +kernel
theorem strs_get {vs : List Value} {ys : List PySem.Str} (h : StrsAre vs ys) : ∀ {i : Nat} {v : Value}, vs[i]? = some v → ∃ y t, ys[i]? = some y ∧ v = .str y t := by
  induction h with
  | nil => intro i v e; simp at e
  | cons y t r ih =>
    intro i v e
    cases i with
    | zero => simp at e; exact ⟨y, t, rfl, e.symm⟩
    | succ i => exact ih (i := i) (by simpa using e)
theorem strs_len {vs : List Value} {ys : List PySem.Str} (h : StrsAre vs ys) : vs.length = ys.length := by
  induction h with
  | nil => rfl
  | cons y t r ih => simp [ih]
theorem sign_first : ∀ sg ∈ angles, ∀ i, i < signs.length → (∀ j, j < i → sg.take (signs.getD j []).length ≠ signs.getD j []) → sg.take (signs.getD i []).length = signs.getD i [] → signs.getD i [] = sg := by decide +kernel
theorem sign_some : ∀ sg ∈ angles, ¬ ∀ j, j < signs.length → sg.take (signs.getD j []).length ≠ signs.getD j [] := by decide +kernel
theorem sign_len : ∀ i, i < signs.length → (signs.getD i []).length ≤ 3 := by decide +kernel
theorem lit_sign : PySem.Str.ofString "sign" = S (codes "sign") := by decide +kernel
theorem lt_left {news own : List (Addr × Obj)} {a : Addr} (h : ∀ p ∈ news ++ own, p.1 < a) : ∀ p ∈ news, p.1 < a := fun p hp => h p (List.mem_append_left _ hp)
def signRow (sg : List Nat) (at_ : Nat) : Row := ⟨codes "sign", sg, at_, none, none⟩
local macro_rules | `(tactic| walk_at "pyIter ref") => `(tactic| (refine Hold.out ?_))
local macro_rules | `(tactic| walk_at "exec For Name Name cons nil") => `(tactic| (refine Hold.out ?_))
set_option maxHeartbeats 8000000 in
theorem read_sign_says {w : World} {text : List Nat} {at_ : Nat} {t1 t2 : Tok} {sg : List Nat} (hl : text.length ≤ 1000000) (h1 : text.drop at_ = sg) (hsg : sg ∈ angles) :
   Says w 1 16 118 [.str (S text) t1, .int at_ t2] [] (WordOut (signRow sg at_) (at_ + sg.length)) := by
  intro loose mean mg mb dp un gd cn cs a ccd cl outer A₀ base h₀ L m s Q E news B F X N T hk hd hu hsep hret
  rw [List.nil_append] at N
  refine wpAny_call ?_
  k_dflt cell_enter
  refine toks_any ?_
  intro tk0
  rename_i g L' h' FG F' N' B' X' T'
  replace F' : Fr g L' h' (fun y => List.lookup y [(Str.ofString "at", .int at_ t2), (Str.ofString "text", .str (S text) t1)]) := F'
  have hat : at_ < text.length := by
    have : sg ≠ [] := by intro e; subst e; simp [angles] at hsg
    rw [← h1] at this
    simpa using this
  obtain ⟨vs, htup, hstr⟩ := signs_at X'
  k_steps
  refine Hold.go ?_
  (with_reducible rename Fr _ _ _ _ => F1); (with_reducible rename News _ _ _ _ => N1)
  refine For_invVF F1 rfl rfl ?_
  k_steps
  refine Hold.go ?_
  (with_reducible rename Fr _ _ _ _ => F1); (with_reducible rename News _ _ _ _ => N1)
  refine fr_tup (fun _ _ => news) (fun _ _ => [(Str.ofString "at", .int at_ t2), (Str.ofString "text", .str (S text) t1)]) (fun i (_ : Unit) => ∀ j, j < i → sg.take (signs.getD j []).length ≠ signs.getD j []) () rfl htup F1 N1 sub_self (allc rfl (all1 rfl)) (fun j hj => absurd hj (Nat.not_lt_zero _)) (fun _ _ _ p hp => ⟨p, hp, rfl⟩) (fun _ _ => allc (show Str.ofString "at" ≠ Str.ofString "sign" by decide +kernel) (all1 (show Str.ofString "text" ≠ Str.ofString "sign" by decide +kernel))) ?turn ?done
  case turn =>
    intro i v _ own u h₁ tk₁ hi hp F₁ N₁ hs
    clear F1 N1
    obtain ⟨y, t, hy, rfl⟩ := strs_get hstr (i := i) (v := v) (by simpa using hi)
    rw [List.getElem?_map] at hy
    obtain ⟨y, hy2, rfl⟩ := Option.map_eq_some_iff.mp hy
    clear hy
    rename signs[i]? = some y => hy
    have hil : i < signs.length := by
      rcases Nat.lt_or_ge i signs.length with h | h
      · exact h
      · rw [List.getElem?_eq_none h] at hy; cases hy
    have hyd : signs.getD i [] = y := by rw [List.getD]; exact congrArg (·.getD []) hy
    have hy3 : y.length ≤ 3 := hyd ▸ sign_len i hil
    have hy6 : y.length ≤ 1000000 := by omega
    dsimp only
    (try k_fold)
    k_steps
    · have e1 : List.take y.length (List.drop at_ text) = y := by assumption
      rw [h1] at e1
      have e2 : y = sg := by
        rw [← hyd]
        exact sign_first sg hsg i hil hp (by rw [hyd]; exact e1)
      subst e2
      rename News h₀ _ _ _ => N2
      rename Fr h₀ _ _ _ => F2
      rename (_ ∧ AllLt _ _) => l2
      refine hret _ _ _ _ ⟨_, _, _, _, rfl, ?_, ?_, ?_, rfl⟩ F2 (fun p hp => N2 p (by
        rcases List.mem_cons.mp hp with rfl | hp
        · exact .head _
        · rcases List.mem_cons.mp hp with rfl | hp
          · exact .tail _ (.head _)
          · exact .tail _ (.tail _ (List.mem_append_left _ hp))))
      · refine lt_left (own := own) ?_
        first | assumption | exact ktn_ltOf (by assumption)
      · exact l2.1
      · exact ⟨_, _, _, 0, 0, by rw [lit_sign]; rfl⟩
    · have e1 : ¬ List.take y.length (List.drop at_ text) = y := by assumption
      rw [h1] at e1
      rename Fr _ _ _ _ => F2
      rename News _ _ _ _ => N2
      refine FEnd.intro () F2 N2 (fun p hp => hp) (allc rfl (all1 rfl)) (fun j hj => ?_)
      rcases Nat.lt_or_ge j i with h | h
      · exact hp j h
      · obtain rfl : j = i := by omega
        rw [hyd]; exact e1
  case done =>
    intro _ u h₁ tk₁ hp F₁ N₁
    exact absurd (fun j hj => hp j (by rw [show (Array.mk vs).size = vs.length from rfl, strs_len hstr, List.length_map]; exact hj)) (sign_some sg hsg)
end
section
local macro_rules | `(tactic| walk_at "call ref") => `(tactic| ((with_reducible show wpAny _ _ (call (Value.ref 76) _) _ _ _); k_dflt (refine' run_end_gives ?q1 ?q2 ?k1 ?k2 ?k3 ?k4 ?k5 ?kK ?kd ?ku ?_; (case k1 | k2 | k3 | k4 | k5 => k_asm); (case kK => walk_at "ra"); (case kd | ku => walk_at "kd"); (case q1 | q2 => walk_at "ao")); intro t9 h9 tk9 F9 N9; (try dsimp only); (try k_fold)))
local macro_rules | `(tactic| walk_at $k:str) => if ["exec Raise", "exec Raise some Call none", "exec Raise some none"].contains k.getString then `(tactic| refine Hold.out ?_) else Lean.Macro.throwUnsupported
def nameBegins : List Nat := codes "abcdefghijklmnopqrstuvwxyzABCDEFGHIJKLMNOPQRSTUVWXYZ_"
theorem lit_begins : cpsOfBytes 0 0 "abcdefghijklmnopqrstuvwxyzABCDEFGHIJKLMNOPQRSTUVWXYZ_".toByteArray.data.toList = nameBegins := by decide +kernel
theorem lit_figures : cpsOfBytes 0 0 "0123456789".toByteArray.data.toList = codes "0123456789" := by decide +kernel
theorem lit_name : PySem.Str.ofString "name" = S (codes "name") := by decide +kernel
theorem lit_quote : (PySem.Str.ofString "'").1.toList = [39] := by decide +kernel
def nameRow (nm : List Nat) (at_ : Nat) : Row := ⟨codes "name", nm, at_, none, none⟩
/-- the word at a place, and the place behind it; none: a number of too many figures -/
inductive Word (text : List Nat) (i : Nat) : Option (Row × Nat) → Prop
  | name : i < text.length → text.getD i 0 ∈ nameBegins → Word text i (some (nameRow ((text.drop i).take (runEnd text nameSigns i - i)) i, runEnd text nameSigns i))
  | int {figs kind : List Nat} {bs e : Nat} : i < text.length → text.getD i 0 ∈ codes "0123456789" → text.getD i 0 ∉ nameBegins → i + headLen ((text.drop i).take 2) ≤ text.length → IntAt text i figs kind bs e → manyOf figs ≤ 40 → Word text i (some (intRow text i figs kind bs e, e))
  | fault {figs kind : List Nat} {bs e : Nat} : i < text.length → text.getD i 0 ∈ codes "0123456789" → text.getD i 0 ∉ nameBegins → i + headLen ((text.drop i).take 2) ≤ text.length → IntAt text i figs kind bs e → 40 < manyOf figs → Word text i none
  | sign {sg : List Nat} : i < text.length → text.getD i 0 = 62 → text.drop i = sg → sg ∈ angles → Word text i (some (signRow sg i, i + sg.length))
set_option maxHeartbeats 8000000 in
theorem read_word_says {w : World} {text : List Nat} {at_ : Nat} {t1 t2 : Tok} {o : Option (Row × Nat)} (hl : text.length ≤ 1000000) (ha : ∀ c ∈ text, c < 128) (hw : Word text at_ o) :
   SaysX w 6 48 125 [.str (S text) t1, .int at_ t2] [] (fun news r led => ∃ row j, o = some (row, j) ∧ WordOut row j news r led) (fun C spot => C = 52 ∧ spot = at_ ∧ o = none) := by
  intro loose mean mg mb dp un gd cn cs a ccd cl outer A₀ base h₀ L m s Q E news B F X N T hk hd hu hsep hret hthrow
  rw [List.nil_append] at N
  refine wpAny_call ?_
  k_dflt cell_enter
  refine toks_any ?_
  intro tk0
  rename_i g L' h' FG F' N' B' X' T'
  replace F' : Fr g L' h' (fun y => List.lookup y [(Str.ofString "at", .int at_ t2), (Str.ofString "text", .str (S text) t1)]) := F'
  have hat : at_ < text.length := by cases hw <;> assumption
  have hat2 : at_ ≤ text.length := by omega
  have hq : ¬ text.getD at_ 0 = 39 := by
    intro e
    cases hw with
    | name h1 h2 => rw [e] at h2; exact absurd h2 (by decide +kernel)
    | int h1 h2 => rw [e] at h2; exact absurd h2 (by decide +kernel)
    | fault h1 h2 => rw [e] at h2; exact absurd h2 (by decide +kernel)
    | sign h1 h2 => rw [e] at h2; cases h2
  k_steps
  · have e1 : text.getD at_ 0 ∈ (Str.ofString "abcdefghijklmnopqrstuvwxyzABCDEFGHIJKLMNOPQRSTUVWXYZ_").1.toList := by assumption
    rename News h₀ _ _ _ => N2
    rename Fr h₀ _ _ _ => F2
    rename (_ ∧ AllLt _ _) => l2
    rw [show (Str.ofString "abcdefghijklmnopqrstuvwxyzABCDEFGHIJKLMNOPQRSTUVWXYZ_").1.toList = nameBegins from lit_begins] at e1
    cases hw with
    | name h1 h2 =>
      rw [lit_names] at N2
      refine hret _ _ _ _ ⟨_, _, rfl, _, _, _, _, rfl, ?_, ?_, ?_, rfl⟩ F2 N2
      · first | assumption | exact ktn_ltOf (by assumption)
      · exact l2.1
      · exact ⟨_, _, _, 0, 0, by rw [lit_name]; rfl⟩
    | int h1 h2 h3 => exact absurd e1 h3
    | fault h1 h2 h3 => exact absurd e1 h3
    | sign h1 h2 => rw [h2] at e1; exact absurd e1 (by decide +kernel)
  · refine Hold.go ?_
    have e1 : ¬ text.getD at_ 0 ∈ (Str.ofString "abcdefghijklmnopqrstuvwxyzABCDEFGHIJKLMNOPQRSTUVWXYZ_").1.toList := by assumption
    have e2 : text.getD at_ 0 ∈ (Str.ofString "0123456789").1.toList := by assumption
    rw [show (Str.ofString "abcdefghijklmnopqrstuvwxyzABCDEFGHIJKLMNOPQRSTUVWXYZ_").1.toList = nameBegins from lit_begins] at e1
    rw [show (Str.ofString "0123456789").1.toList = codes "0123456789" from lit_figures] at e2
    (with_reducible rename Fr _ _ _ _ => F1); (with_reducible rename News _ _ _ _ => N1)
    obtain ⟨figs, kind, bs, e, hb, I, ho⟩ : ∃ figs kind bs e, at_ + headLen ((text.drop at_).take 2) ≤ text.length ∧ IntAt text at_ figs kind bs e ∧ ((manyOf figs ≤ 40 ∧ o = some (intRow text at_ figs kind bs e, e)) ∨ (40 < manyOf figs ∧ o = none)) := by
      cases hw with
      | name h1 h2 => exact absurd h2 e1
      | int h1 h2 h3 h4 I hm => exact ⟨_, _, _, _, h4, I, .inl ⟨hm, rfl⟩⟩
      | fault h1 h2 h3 h4 I hm => exact ⟨_, _, _, _, h4, I, .inr ⟨hm, rfl⟩⟩
      | sign h1 h2 => rw [h2] at e2; exact absurd e2 (by decide +kernel)
    refine read_int_says hl hb ha I B' F1 X' N1 T' rfl (by first | ktr_room | omega) (by first | ktr_units | omega) (fun _ h => nomatch h) ?_ ?_
    · rintro r9 led9 h9 tk9 ⟨hm9, ao9, ai9, vs9, te9, rfl, l9, m9, rw9, rfl⟩ F9 N9
      dsimp only [List.cons_append, List.nil_append] at N9
      k_steps
      rename News h₀ _ _ _ => N2
      rename Fr h₀ _ _ _ => F2
      exact hret _ _ _ _ ⟨_, _, ho.elim (·.2) (fun z => absurd z.1 (by walk_at "om")), _, _, _, _, rfl, l9, m9, rw9, rfl⟩ F2 N2
    · rintro C spot e9 G h9 tk9 ⟨rfl, rfl, hm9⟩ F9 R9 sm9
      show wpAny _ _ (leaving _ _) _ _ _
      refine thrown_leave B' F9 R9 sm9 sub_self rfl fun h4 R4 sm4 => ?_
      exact hthrow 52 _ e9 _ h4 _ ⟨rfl, rfl, ho.elim (fun z => absurd z.1 (by walk_at "om")) (·.2)⟩ FG R4 sm4
  · have e1 : [text.getD at_ 0] = (Str.ofString "'").1.toList := by assumption
    rw [lit_quote] at e1
    exact absurd (List.cons.inj e1).1 hq
  · have e1 : [text.getD at_ 0] = (Str.ofString "'").1.toList := by assumption
    rw [lit_quote] at e1
    exact absurd (List.cons.inj e1).1 hq
  · refine Hold.go ?_
    have e1 : ¬ text.getD at_ 0 ∈ (Str.ofString "abcdefghijklmnopqrstuvwxyzABCDEFGHIJKLMNOPQRSTUVWXYZ_").1.toList := by assumption
    have e2 : ¬ text.getD at_ 0 ∈ (Str.ofString "0123456789").1.toList := by assumption
    rw [show (Str.ofString "abcdefghijklmnopqrstuvwxyzABCDEFGHIJKLMNOPQRSTUVWXYZ_").1.toList = nameBegins from lit_begins] at e1
    rw [show (Str.ofString "0123456789").1.toList = codes "0123456789" from lit_figures] at e2
    (with_reducible rename Fr _ _ _ _ => F1); (with_reducible rename News _ _ _ _ => N1)
    obtain ⟨sg, h3, h4, ho⟩ : ∃ sg, text.drop at_ = sg ∧ sg ∈ angles ∧ o = some (signRow sg at_, at_ + sg.length) := by
      cases hw with
      | name h1 h2 => exact absurd h2 e1
      | int h1 h2 h3 h4 I hm => exact absurd h2 e2
      | fault h1 h2 h3 h4 I hm => exact absurd h2 e2
      | sign h1 h2 h3 h4 => exact ⟨_, h3, h4, rfl⟩
    refine read_sign_says hl h3 h4 B' F1 X' N1 T' rfl (by first | ktr_room | omega) (by first | ktr_units | omega) (fun _ h => nomatch h) ?_
    rintro r9 led9 h9 tk9 ⟨ao9, ai9, vs9, te9, rfl, l9, m9, rw9, rfl⟩ F9 N9
    dsimp only [List.cons_append, List.nil_append] at N9
    k_steps
    rename News h₀ _ _ _ => N2
    rename Fr h₀ _ _ _ => F2
    exact hret _ _ _ _ ⟨_, _, ho, _, _, _, _, rfl, l9, m9, rw9, rfl⟩ F2 N2
end
section
local macro_rules | `(tactic| walk_at $k:str) => if ["call builtin:list.append"].contains k.getString then `(tactic| refine Hold.out ?_) else Lean.Macro.throwUnsupported
def endRow (n : Nat) : Row := ⟨codes "end", [], n, none, none⟩
theorem lit_end : PySem.Str.ofString "end" = S (codes "end") := by decide +kernel
theorem lit_empty : PySem.Str.ofString "" = S [] := by decide +kernel
/-- the words of a text from a place on; at the end a fault's place, if there is one -/
inductive Toks (text : List Nat) : Nat → List Row → Option Nat → Prop
  | done : Toks text text.length [] none
  | word {i j k : Nat} {row : Row} {rows : List Row} {f : Option Nat} : Word text i (some (row, j)) → j ≤ text.length → Skips text j k → Toks text k rows f → Toks text i (row :: rows) f
  | fault {i : Nat} : Word text i none → Toks text i [] (some i)
inductive Rows2 : List Row → List (Addr × List Value) → Prop
  | nil : Rows2 [] []
  | cons {r : Row} {a : Addr} {vs : List Value} {rs : List Row} {tv : List (Addr × List Value)} : RowIs r vs → Rows2 rs tv → Rows2 (r :: rs) ((a, vs) :: tv)
theorem Rows2.snoc {r : Row} {a : Addr} {vs : List Value} (h : RowIs r vs) : ∀ {rs : List Row} {tv : List (Addr × List Value)}, Rows2 rs tv → Rows2 (rs ++ [r]) (tv ++ [(a, vs)])
  | _, _, .nil => .cons h .nil
  | _, _, .cons h1 h2 => .cons h1 (Rows2.snoc h h2)
abbrev tupsOf (tv : List (Addr × List Value)) : List (Addr × Obj) := tv.map fun p => (p.1, tupObj p.2)
abbrev refsOf (tv : List (Addr × List Value)) : List Value := tv.map fun p => .ref p.1
def RowsOut (rows : List Row) (news : List (Addr × Obj)) (r : Value) (led : List (Addr × Obj)) : Prop :=
  ∃ l n tv, r = .ref l ∧ led = (l, PySem.W.listOf ⟨refsOf tv⟩ n) :: tupsOf tv ∧ Rows2 rows tv ∧ (∀ q ∈ news, q.1 < l) ∧ ∀ p ∈ tv, l < p.1
theorem Word.lt {text : List Nat} {i : Nat} {o : Option (Row × Nat)} (h : Word text i o) : i < text.length := by cases h <;> assumption
theorem append_led {prog : Program} {w : World} {A : Around} {E : Value → Shared → Prop} {s : Shared} {h₀ : Heap} {L : Addr} {m : PySem.Str → Option Value} {news rest : List (Addr × Obj)} {D : Addr} {its : Array Value} {n : Nat} {x : Value} {Q : Value → Shared → Prop}
    (F : Fr h₀ L s.heap m) (N : News h₀ L s.heap news) (hm : (D, PySem.W.listOf its n) ∈ news) (hs : ∀ p ∈ rest, p ∈ news) (hne : ∀ p ∈ rest, p.1 ≠ D) (hsz : its.size ≤ sizeLine)
    (h : ∀ h', Fr h₀ L h' m → News h₀ L h' ((D, PySem.W.listOf (its.push x) (n + 1)) :: rest) → Q .none { s with heap := h' }) :
    wpAny (model prog w) A (call (.builtin "list.append") [.ref D, x]) Q E s := by
  have z := N (D, PySem.W.listOf its n) hm
  have N' : News h₀ L s.heap ([] ++ (D, PySem.W.listOf its n) :: rest) := fun p hp => by
    rcases List.mem_cons.mp hp with rfl | hp
    · exact z
    · exact N p (hs p hp)
  exact append_at (hsz := hsz) z.1 fun h' hs' ho' => h h' (F.change hs' z.2.1 z.2.2) (news_set (pre := []) N' (by simp) hne hs' ho')
theorem append_snd {prog : Program} {w : World} {A : Around} {E : Value → Shared → Prop} {s : Shared} {h₀ : Heap} {L : Addr} {m : PySem.Str → Option Value} {rest : List (Addr × Obj)} {q : Addr × Obj} {D : Addr} {its : Array Value} {n : Nat} {x : Value} {Q : Value → Shared → Prop}
    (F : Fr h₀ L s.heap m) (N : News h₀ L s.heap (q :: (D, PySem.W.listOf its n) :: rest)) (hq : q.1 ≠ D) (hne : ∀ p ∈ rest, p.1 ≠ D) (hsz : its.size ≤ sizeLine)
    (h : ∀ h', Fr h₀ L h' m → News h₀ L h' ((D, PySem.W.listOf (its.push x) (n + 1)) :: q :: rest) → Q .none { s with heap := h' }) :
    wpAny (model prog w) A (call (.builtin "list.append") [.ref D, x]) Q E s :=
  append_led F N (.tail _ (.head _)) (fun p hp => by
    rcases List.mem_cons.mp hp with rfl | hp
    · exact .head _
    · exact .tail _ (.tail _ hp)) (fun p hp => by
    rcases List.mem_cons.mp hp with rfl | hp
    · exact hq
    · exact hne p hp) hsz h
theorem rows_end {h₀ h : Heap} {L l0 a : Addr} {n : Nat} {rows : List Row} {r : Row} {tv : List (Addr × List Value)} {vs : List Value} {news : List (Addr × Obj)}
    (N : News h₀ L h ((l0, PySem.W.listOf ((⟨refsOf tv⟩ : Array Value).push (.ref a)) n) :: (a, tupObj vs) :: (tupsOf tv ++ news))) (h2 : Rows2 rows tv) (l1 : ∀ q ∈ news, q.1 < l0) (hlt : ∀ p ∈ tv, l0 < p.1) (ha : l0 < a) (hr : RowIs r vs) :
    ∃ led, RowsOut (rows ++ [r]) news (.ref l0) led ∧ News h₀ L h (led ++ news) := by
  refine ⟨_, ⟨l0, n, tv ++ [(a, vs)], rfl, rfl, h2.snoc hr, l1, fun p hp => ?_⟩, fun p hp => N p ?_⟩
  · rcases List.mem_append.mp hp with hp | hp
    · exact hlt p hp
    · rw [List.mem_singleton.mp hp]; exact ha
  · rw [show (⟨refsOf (tv ++ [(a, vs)])⟩ : Array Value) = (⟨refsOf tv⟩ : Array Value).push (.ref a) by simp [refsOf]] at hp
    rcases List.mem_cons.mp hp with rfl | hp
    · exact .head _
    · have hp : p ∈ tupsOf (tv ++ [(a, vs)]) ++ news := hp
      rw [tupsOf, List.map_append, List.append_assoc] at hp
      rcases List.mem_append.mp hp with hp | hp
      · exact .tail _ (.tail _ (List.mem_append_left _ hp))
      · rcases List.mem_cons.mp hp with rfl | hp
        · exact .tail _ (.head _)
        · exact .tail _ (.tail _ (List.mem_append_right _ hp))
theorem tups_mem {tv : List (Addr × List Value)} {p : Addr × Obj} (h : p ∈ tupsOf tv) : ∃ q ∈ tv, p = (q.1, tupObj q.2) := by
  obtain ⟨q, hq, rfl⟩ := List.mem_map.mp h
  exact ⟨q, hq, rfl⟩
theorem Rows2.len : ∀ {rs : List Row} {tv : List (Addr × List Value)}, Rows2 rs tv → tv.length = rs.length
  | _, _, .nil => rfl
  | _, _, .cons _ h => by simp [Rows2.len h]
set_option maxHeartbeats 8000000 in
theorem word_rows_says {w : World} {text : List Nat} {t1 : Tok} {i0 : Nat} {rows : List Row} {f : Option Nat} (hl : text.length ≤ 1000000) (ha : ∀ c ∈ text, c < 128) (hs0 : Skips text 0 i0) (ht : Toks text i0 rows f) (hrl : rows.length ≤ 1000) :
   SaysX w 8 80 132 [.str (S text) t1] [] (fun news r led => f = none ∧ RowsOut (rows ++ [endRow text.length]) news r led) (fun C spot => C = 52 ∧ f = some spot) := by
  intro loose mean mg mb dp un gd cn cs a ccd cl outer A₀ base h₀ L m s Q E news B F X N T hk hd hu hsep hret hthrow
  rw [List.nil_append] at N
  refine wpAny_call ?_
  k_dflt cell_enter
  refine toks_any ?_
  intro tk0
  rename_i g L' h' FG F' N' B' X' T'
  replace F' : Fr g L' h' (fun y => List.lookup y [(Str.ofString "text", .str (S text) t1)]) := F'
  k_steps
  refine Hold.go ?_
  (with_reducible rename Fr _ _ _ _ => F1); (with_reducible rename News _ _ _ _ => N1)
  refine blank_end_gives (at_ := 0) hl (Nat.zero_le _) hs0 B' F1 X' N1 T' rfl (by first | ktr_room | omega) (by first | ktr_units | omega) fun t9 h9 tk9 F9 N9 => ?_
  rename_i l0 _ l1 _
  dsimp only
  clear F1 N1
  k_steps
  refine Hold.go ?_
  (with_reducible rename Fr _ _ _ _ => F1); (with_reducible rename News _ _ _ _ => N1)
  refine wh (σ := (Nat × Nat × List Row × List (Addr × List Value) × List Row) × Tok) (fun c => (l0, PySem.W.listOf ⟨refsOf c.1.2.2.2.1⟩ c.1.2.1) :: (tupsOf c.1.2.2.2.1 ++ news)) (fun c => [(Str.ofString "at", .int c.1.1 c.2), (Str.ofString "found", .ref l0), (Str.ofString "text", .str (S text) t1)])
    (fun c => rows = c.1.2.2.1 ++ c.1.2.2.2.2 ∧ Toks text c.1.1 c.1.2.2.2.2 f ∧ Rows2 c.1.2.2.1 c.1.2.2.2.1 ∧ ∀ p ∈ c.1.2.2.2.1, l0 < p.1) (fun c => c.1.2.2.2.2.length) ((i0, 0, [], [], rows), _) F1 N1
    sub_self (allc rfl (allc rfl (all1 rfl))) ⟨rfl, ht, .nil, fun _ h => nomatch h⟩ ?turn (by passes_own)
  case turn =>
    rintro ⟨⟨i, n, pre, tv, rest⟩, ti⟩ u h₁ tk₁ ⟨hrows, htk, hr2, hlt⟩ F₁ N₁
    clear F1 N1
    dsimp only at hrows htk hr2 hlt F₁ N₁ ⊢
    have htl : tv.length ≤ 1000 := by
      rw [hr2.len]; rw [hrows, List.length_append] at hrl; omega
    have hne : ∀ p ∈ tupsOf tv ++ news, p.1 ≠ l0 := fun p hp => by
      rcases List.mem_append.mp hp with hp | hp
      · obtain ⟨q, hq, rfl⟩ := tups_mem hp
        exact Nat.ne_of_gt (hlt q hq)
      · exact Nat.ne_of_lt (l1 p hp)
    (try k_fold)
    k_steps
    · refine Hold.go ?_
      have e1 : (i : Int) < (text.length : Int) := by assumption
      (with_reducible rename Fr _ _ _ _ => F1); (with_reducible rename News _ _ _ _ => N1)
      generalize hg : text.length = tl at htk
      cases htk with
      | done => omega
      | word hw hj hsk htk' =>
        rename_i j0 k0 row0 rows0
        subst hg
        refine read_word_says hl ha hw B' F1 X' N1 T' rfl (by first | ktr_room | omega) (by first | ktr_units | omega) (fun _ h => nomatch h) ?_ ?_
        · rintro r9 led9 h9 tk9 ⟨row, j, ho, ao9, ai9, vs9, te9, rfl, l9, m9, rw9, rfl⟩ F9 N9
          obtain ⟨rfl, rfl⟩ := Prod.mk.inj (Option.some.inj ho)
          clear ho
          dsimp only [List.cons_append, List.nil_append] at N9
          k_steps
          refine Hold.go ?_
          rename Fr _ _ _ _ => F2
          rename News _ _ _ _ => N2
          have hl9 : l0 < ai9 := l9 (l0, _) (.head _)
          refine append_led (its := ⟨refsOf tv⟩) (n := n) (rest := (ai9, tupObj vs9) :: (tupsOf tv ++ news)) F2 N2 (.tail _ (.tail _ (.head _))) (fun p hp => ?_) (fun p hp => ?_) (by show (refsOf tv).length ≤ sizeLine; rw [List.length_map]; exact Nat.le_trans htl (by decide)) fun h3 F3 N3 => ?_
          · rcases List.mem_cons.mp hp with rfl | hp
            · exact .tail _ (.head _)
            · exact .tail _ (.tail _ (.tail _ hp))
          · rcases List.mem_cons.mp hp with rfl | hp
            · exact Nat.ne_of_gt hl9
            · exact hne p hp
          dsimp only
          clear F2 N2
          k_steps
          refine Hold.go ?_
          rename Fr _ _ _ _ => F2
          rename News _ _ _ _ => N2
          refine blank_end_gives hl hj hsk B' F2 X' N2 T' rfl (by first | ktr_room | omega) (by first | ktr_units | omega) fun t8 h8 tk8 F8 N8 => ?_
          dsimp only
          clear F2 N2
          k_steps
          rename Fr _ _ _ _ => F2
          rename News _ _ _ _ => N2
          refine WEnd.intro ((_, n + 1, pre ++ [row0], tv ++ [(ai9, vs9)], _), _) F2 N2 ?_ (allc rfl (allc rfl (all1 rfl))) ⟨by rw [hrows]; simp, htk', hr2.snoc rw9, ?_⟩ (Nat.lt_succ_self _)
          · dsimp only
            rw [show (⟨refsOf (tv ++ [(ai9, vs9)])⟩ : Array Value) = (⟨refsOf tv⟩ : Array Value).push (.ref ai9) by simp [refsOf]]
            intro p hp
            rcases List.mem_cons.mp hp with rfl | hp
            · exact .head _
            · rw [tupsOf, List.map_append, List.append_assoc] at hp
              rcases List.mem_append.mp hp with hp | hp
              · exact .tail _ (.tail _ (List.mem_append_left _ hp))
              · rcases List.mem_cons.mp hp with rfl | hp
                · exact .tail _ (.head _)
                · exact .tail _ (.tail _ (List.mem_append_right _ hp))
          · intro p hp
            rcases List.mem_append.mp hp with hp | hp
            · exact hlt p hp
            · rw [List.mem_singleton.mp hp]; exact hl9
        · rintro C spot e9 G h9 tk9 ⟨rfl, rfl, hm9⟩ F9 R9 sm9
          cases hm9
      | fault hw =>
        subst hg
        refine read_word_says hl ha hw B' F1 X' N1 T' rfl (by first | ktr_room | omega) (by first | ktr_units | omega) (fun _ h => nomatch h) ?_ ?_
        · rintro r9 led9 h9 tk9 ⟨row, j, ho, _⟩ F9 N9
          cases ho
        · rintro C spot e9 G h9 tk9 ⟨rfl, rfl, hm9⟩ F9 R9 sm9
          show wpAny _ _ (leaving _ _) _ _ _
          refine thrown_leave (news := news) B' F9 R9 sm9 (fun p hp => .tail _ (List.mem_append_right _ hp)) rfl fun h4 R4 sm4 => ?_
          exact hthrow 52 _ e9 _ h4 _ ⟨rfl, rfl⟩ FG R4 sm4
    · refine Hold.go ?_
      have e1 : ¬ (i : Int) < (text.length : Int) := by assumption
      rename Fr _ _ _ _ => F2
      rename News _ _ _ _ => N2
      rename (_ ∧ AllLt _ _) => l2
      obtain ⟨hi, hrest, hf⟩ : i = text.length ∧ rest = [] ∧ f = none := by
        generalize hg : text.length = tl at htk e1 ⊢
        cases htk with
        | done => exact ⟨by omega, rfl, rfl⟩
        | word hw _ _ _ => have := hw.lt; omega
        | fault hw => have := hw.lt; omega
      have hl9 := l2.1
      refine append_snd F2 N2 (Nat.ne_of_gt hl9) hne (by show (refsOf tv).length ≤ sizeLine; rw [List.length_map]; exact Nat.le_trans htl (by decide)) fun h3 F3 N3 => ?_
      dsimp only
      clear F2 N2
      k_steps
      rename News h₀ _ _ _ => N2
      rename Fr h₀ _ _ _ => F2
      have hrw : rows = pre := by rw [hrows, hrest, List.append_nil]
      rw [← hrw] at hr2
      obtain ⟨led9, hO, hN⟩ := rows_end (r := endRow text.length) N2 hr2 l1 hlt hl9 ⟨_, _, _, 0, 0, by rw [lit_end, lit_empty]; rfl⟩
      exact hret _ led9 _ _ ⟨hf, hO⟩ F2 hN
end
section
local macro_rules | `(tactic| walk_at $k:str) => if ["call type:list"].contains k.getString then `(tactic| refine Hold.out ?_) else Lean.Macro.throwUnsupported
abbrev hereDict (w : World) (D : Addr) (at_ : Nat) (ta tb tc : Tok) : Obj := dictOf [⟨PyData.keyHash w.params (Str.ofString "rows"), .str (Str.ofString "rows") ta, .ref D⟩, ⟨PyData.keyHash w.params (Str.ofString "at"), .str (Str.ofString "at") tb, .int at_ tc⟩] 2
abbrev hereLed (w : World) (x dx D : Addr) (refs : List Value) (c at_ : Nat) (ta tb tc : Tok) : List (Addr × Obj) := [(x, instObj 200 dx), (dx, hereDict w D at_ ta tb tc), (D, PySem.W.listOf ⟨refs⟩ c)]
def ReadOut (w : World) (rows : List Row) (news : List (Addr × Obj)) (r : Value) (led : List (Addr × Obj)) : Prop :=
  ∃ x dx D c ta tb tc tv, r = .ref x ∧ led = hereLed w x dx D (refsOf tv) c 0 ta tb tc ++ tupsOf tv ∧ Rows2 rows tv ∧ dx < x ∧ x < D ∧ (∀ q ∈ news, q.1 < dx) ∧ ∀ p ∈ tv, p.1 < dx
theorem here_shape {h₀ h : Heap} {L : Addr} {a b c d : Addr × Obj} {rest : List (Addr × Obj)} (N : News h₀ L h (c :: a :: b :: d :: rest)) : News h₀ L h (a :: b :: c :: rest) := fun p hp => N p (by
  rcases List.mem_cons.mp hp with rfl | hp
  · exact .tail _ (.head _)
  rcases List.mem_cons.mp hp with rfl | hp
  · exact .tail _ (.tail _ (.head _))
  rcases List.mem_cons.mp hp with rfl | hp
  · exact .head _
  exact .tail _ (.tail _ (.tail _ (.tail _ hp))))
set_option maxHeartbeats 8000000 in
theorem read_words_says {w : World} {text : List Nat} {t1 : Tok} {i0 : Nat} {rows : List Row} {f : Option Nat} (hl : text.length ≤ 1000000) (ha : ∀ c ∈ text, c < 128) (hs0 : Skips text 0 i0) (ht : Toks text i0 rows f) (hrl : rows.length ≤ 1000) :
   SaysX w 10 100 139 [.str (S text) t1] [] (fun news r led => f = none ∧ ReadOut w (rows ++ [endRow text.length]) news r led) (fun C spot => C = 52 ∧ f = some spot) := by
  intro loose mean mg mb dp un gd cn cs a ccd cl outer A₀ base h₀ L m s Q E news B F X N T hk hd hu hsep hret hthrow
  rw [List.nil_append] at N
  refine wpAny_call ?_
  k_dflt cell_enter
  refine toks_any ?_
  intro tk0
  rename_i g L' h' FG F' N' B' X' T'
  replace F' : Fr g L' h' (fun y => List.lookup y [(Str.ofString "text", .str (S text) t1)]) := F'
  k_steps
  refine Hold.go ?_
  (with_reducible rename Fr _ _ _ _ => F1); (with_reducible rename News _ _ _ _ => N1)
  refine word_rows_says hl ha hs0 ht hrl B' F1 X' N1 T' rfl (by first | ktr_room | omega) (by first | ktr_units | omega) (fun _ h => nomatch h) ?_ ?_
  · rintro r9 led9 h9 tk9 ⟨hf, l, n, tv, rfl, rfl, hr2, hl1, hlt⟩ F9 N9
    dsimp only [List.cons_append, List.nil_append] at N9
    clear F1 N1
    k_steps
    refine Hold.go ?_
    (with_reducible rename Fr _ _ _ _ => F1); (with_reducible rename News _ _ _ _ => N1)
    k_dflt (refine' call_cls ?k1 ?k2 ?k3 ?k4 ?k5 ?k6 ?_; (case k1 => exact F1); (case k2 => k_asm); (case k3 => exact N1); (case k4 => k_is); (case k5 => k_is); (case k6 => k_is); k_whole)
    intro x dx h3 F3 N3 l3 l4
    k_lt l3
    k_lt2 l4
    k_dflt (refine' code_def ?k1 ?k2 ?k3 ?k4 ?k5 ?kA ?kF ?kK ?k6 ?k7 ?k8 ?k9 ?kB ?_ ?c2 ?c3 ?c4 ?c5; (case kA => exact rfl); (case kF => exact rfl); (case kK => first | exact rfl | assumption); (case k1 => k_asm); (case k2 => k_asm); (case k3 => k_asm); (case k4 => k_asm); (case k5 => k_asm); (case k6 => k_is); (case k7 => k_is); (case k8 => ktr_room); (case k9 => exact BindsTo.of_eq rfl); (case c5 => decide); (case kB => exact locs rfl); (case c2 => exact rfl); (case c3 => exact rfl); (case c4 => exact rfl); k_whole; intro g3 L3 h4 FG3 F4 N4 B3 X3 T3; (try dsimp only); (try k_lift B3); (try k_fold))
    k_steps
    refine Hold.go ?_
    (with_reducible rename Fr _ _ _ _ => F5); (with_reducible rename News _ _ _ _ => N5)
    refine kup_listOf (b := l) (its2 := ⟨refsOf tv⟩) (n2 := n) (zs := refsOf tv) F5 N5 (.tail _ (.tail _ (.head _))) rfl (fun D c h6 F6 N6 l6 => ?_) (by show (refsOf tv).length ≤ sizeLine; rw [List.length_map, hr2.len, List.length_append]; exact Nat.le_trans (Nat.add_le_add_right hrl 1) (by decide))
    dsimp only
    clear F5 N5
    k_lt l6
    k_steps
    rename News h₀ _ _ _ => N2
    rename Fr h₀ _ _ _ => F2
    have l5 : ∀ p ∈ tupsOf tv ++ news, p.1 < dx := ktn_ltOf l3.2
    refine hret _ _ _ _ ⟨hf, x, dx, D, c, _, _, _, tv, rfl, rfl, hr2, l4, l6.1, fun q hq => l5 q (List.mem_append_right _ hq), fun p hp => l5 (p.1, tupObj p.2) (List.mem_append_left _ (List.mem_map_of_mem hp))⟩ F2 (here_shape N2)
  · rintro C spot e9 G h9 tk9 ⟨rfl, hm9⟩ F9 R9 sm9
    show wpAny _ _ (leaving _ _) _ _ _
    refine thrown_leave B' F9 R9 sm9 sub_self rfl fun h4 R4 sm4 => ?_
    exact hthrow 52 _ e9 _ h4 _ ⟨rfl, hm9⟩ FG R4 sm4
end
section
local macro_rules | `(tactic| walk_at "call builtin:len") => `(tactic| ((with_reducible show wpAny _ _ (call (Value.builtin "len") [Value.ref _]) _ _ _); refine Hold.out ?_))
local macro_rules | `(tactic| walk_at $k:str) => if ["subscriptTail Name Call ref int"].contains k.getString then `(tactic| refine Hold.out ?_) else Lean.Macro.throwUnsupported
theorem pk_at {k a n : Nat} (h1 : 1 ≤ n) (hr : n ≤ 1000) : 0 ≤ (if (n : Int) - 1 < (k : Int) + (a : Int) then (n : Int) - 1 else (k : Int) + (a : Int)) ∧ (if (n : Int) - 1 < (k : Int) + (a : Int) then (n : Int) - 1 else (k : Int) + (a : Int)) < 2 ^ 63 ∧
    (if (n : Int) - 1 < (k : Int) + (a : Int) then (n : Int) - 1 else (k : Int) + (a : Int)).toNat = min (k + a) (n - 1) := by
  split
  · rename_i h
    have e : (n : Int) - 1 = ((n - 1 : Nat) : Int) := (Int.ofNat_sub h1).symm
    have h' : n - 1 ≤ k + a := Nat.le_of_lt (Int.ofNat_lt.mp (by rw [← e]; exact h))
    rw [e, Nat.min_eq_right h']
    refine ⟨Int.natCast_nonneg _, ?_, rfl⟩
    clear h e h'
    omega
  · rename_i h
    have e : (n : Int) - 1 = ((n - 1 : Nat) : Int) := (Int.ofNat_sub h1).symm
    have h' : k + a ≤ n - 1 := Int.ofNat_le.mp (by rw [← e]; exact Int.not_lt.mp h)
    rw [Nat.min_eq_left h']
    refine ⟨Int.natCast_nonneg (k + a), ?_, rfl⟩
    clear h e
    omega
set_option maxHeartbeats 8000000 in
theorem peek_says {w : World} {x dx D : Addr} {refs : List Value} {c k a : Nat} {ta tb tc tt : Tok} {args : List Value} (hargs : args = [.ref x] ∧ a = 0 ∨ args = [.ref x, .int a tt]) (hr : refs.length ≤ 1000) (h1 : 1 ≤ refs.length) (ho : dx < x) (ho2 : x < D) :
   Says w 2 24 161 args (hereLed w x dx D refs c k ta tb tc) (fun news r led => led = hereLed w x dx D refs c k ta tb tc ∧ r = refs.getD (min (k + a) (refs.length - 1)) .none) := by
  intro loose mean mg mb dp un gd cn cs ac ccd cl outer A₀ base h₀ L m s Q E news B F X N T hk hd hu hsep hret
  dsimp only [List.cons_append, List.nil_append] at N
  have X1 := X.keeps F.keep
  refine wpAny_call ?_
  rcases hargs with ⟨rfl, rfl⟩ | rfl
  · k_dflt (refine' code_def ?k1 ?k2 ?k3 ?k4 ?k5 ?kA ?kF ?kK ?k6 ?k7 ?k8 ?k9 ?kB ?_ ?c2 ?c3 ?c4 ?c5; (case kA => exact rfl); (case kF => exact rfl); (case kK => assumption); (case k1 => k_asm); (case k2 => k_asm); (case k3 => k_asm); (case k4 => k_asm); (case k5 => k_asm); (case k6 => k_is); (case k7 => k_is); (case k8 => ktr_room); (case k9 => exact kp_binds X1 (fun _ => rfl)); (case c5 => decide); (case kB => exact locs rfl); (case c2 => exact rfl); (case c3 => exact rfl); (case c4 => exact rfl); k_whole; intro g' L' h' FG' F' N' B' X' T'; (try dsimp only); (try k_lift B'); (try k_fold))
    refine toks_any ?_
    intro tk0
    k_steps
    refine Hold.go ?_
    (with_reducible rename Fr _ _ _ _ => F1); (with_reducible rename News _ _ _ _ => N1)
    refine call_len_list (items := ⟨refs⟩) (N1.isList (.tail _ (.tail _ (.head _)))) (by show ((refs.length : Nat) : Int) < _; omega) ?_
    have e1 : ((⟨refs⟩ : Array Value).size : Int) = (refs.length : Int) := rfl
    rw [e1]
    k_steps
    refine Hold.go ?_
    (with_reducible rename Fr _ _ _ _ => F1); (with_reducible rename News _ _ _ _ => N1)
    refine item_litK (vs := refs) (v := refs.getD (min (k + (0 : Nat)) (refs.length - 1)) .none) (N1.isList (.tail _ (.tail _ (.head _)))) ?_ ?_ ?_ ?_
    · exact (pk_at (a := (0 : Nat)) h1 hr).1
    · exact (pk_at (a := (0 : Nat)) h1 hr).2.1
    · have e2 : (if (refs.length : Int) - 1 < (k : Int) + (0 : Nat) then (refs.length : Int) - 1 else (k : Int) + (0 : Nat)).toNat = min (k + (0 : Nat)) (refs.length - 1) := (pk_at (a := (0 : Nat)) h1 hr).2.2
      first | rw [e2] | (have e3 := e2; simp only [Int.natCast_zero] at e3; rw [e3])
      rw [List.getD, List.getElem?_eq_getElem (Nat.lt_of_le_of_lt (Nat.min_le_right _ _) (Nat.sub_lt h1 Nat.one_pos))]; rfl
    · k_steps
      rename News h₀ _ _ _ => N2
      rename Fr h₀ _ _ _ => F2
      exact hret _ _ _ _ ⟨rfl, rfl⟩ F2 N2
  · k_dflt (refine' code_def ?k1 ?k2 ?k3 ?k4 ?k5 ?kA ?kF ?kK ?k6 ?k7 ?k8 ?k9 ?kB ?_ ?c2 ?c3 ?c4 ?c5; (case kA => exact rfl); (case kF => exact rfl); (case kK => assumption); (case k1 => k_asm); (case k2 => k_asm); (case k3 => k_asm); (case k4 => k_asm); (case k5 => k_asm); (case k6 => k_is); (case k7 => k_is); (case k8 => ktr_room); (case k9 => exact kp_binds X1 (fun _ => rfl)); (case c5 => decide); (case kB => exact locs rfl); (case c2 => exact rfl); (case c3 => exact rfl); (case c4 => exact rfl); k_whole; intro g' L' h' FG' F' N' B' X' T'; (try dsimp only); (try k_lift B'); (try k_fold))
    refine toks_any ?_
    intro tk0
    k_steps
    refine Hold.go ?_
    (with_reducible rename Fr _ _ _ _ => F1); (with_reducible rename News _ _ _ _ => N1)
    refine call_len_list (items := ⟨refs⟩) (N1.isList (.tail _ (.tail _ (.head _)))) (by show ((refs.length : Nat) : Int) < _; omega) ?_
    have e1 : ((⟨refs⟩ : Array Value).size : Int) = (refs.length : Int) := rfl
    rw [e1]
    k_steps
    refine Hold.go ?_
    (with_reducible rename Fr _ _ _ _ => F1); (with_reducible rename News _ _ _ _ => N1)
    refine item_litK (vs := refs) (v := refs.getD (min (k + a) (refs.length - 1)) .none) (N1.isList (.tail _ (.tail _ (.head _)))) ?_ ?_ ?_ ?_
    · exact (pk_at (a := a) h1 hr).1
    · exact (pk_at (a := a) h1 hr).2.1
    · have e2 : (if (refs.length : Int) - 1 < (k : Int) + a then (refs.length : Int) - 1 else (k : Int) + a).toNat = min (k + a) (refs.length - 1) := (pk_at (a := a) h1 hr).2.2
      first | rw [e2] | (have e3 := e2; simp only [Int.natCast_zero] at e3; rw [e3])
      rw [List.getD, List.getElem?_eq_getElem (Nat.lt_of_le_of_lt (Nat.min_le_right _ _) (Nat.sub_lt h1 Nat.one_pos))]; rfl
    · k_steps
      rename News h₀ _ _ _ => N2
      rename Fr h₀ _ _ _ => F2
      exact hret _ _ _ _ ⟨rfl, rfl⟩ F2 N2
end
section
local macro_rules | `(tactic| k_all) => `(tactic| assumption)
/-- like SaysX, with read-only things of the ledger's -/
def SaysR (w : World) (dn un' : Nat) (f : Addr) (vs : List Value) (led ro : List (Addr × Obj)) (Out : List (Addr × Obj) → Value → List (Addr × Obj) → Prop) (Thr : Addr → Nat → Prop) : Prop :=
  ∀ {loose : List Str} {mean : ExcName → Option Value} {mg mb : Str → Option Value} {dp un : Nat} {gd : Option (List Code)} {cn : Str} {cs : Scope} {a : Addr} {ccd : Value} {cl : List (Str × Addr)} {outer : List Env} {A₀ : Around} {base h₀ : Heap} {L : Addr} {m : Str → Option Value} {s : Shared} {Q E : Value → Shared → Prop} {news : List (Addr × Obj)},
   Below A₀ base outer h₀ → Fr h₀ L s.heap m → (hd.heap_39 w.params).In h₀ → News h₀ L s.heap (led ++ news) → (∀ p ∈ ro, p ∈ news) → Top topProg loose mean mg mb h₀ → cs.kind = .function →
   dp + dn < recursionLimit → un + un' < cLine → (∀ p ∈ led, ∀ q ∈ news, q.1 ≠ p.1) →
   (∀ (r : Value) (led' : List (Addr × Obj)) (h' : Heap) (tk' : Nat), Out news r led' → Fr h₀ L h' m → News h₀ L h' (led' ++ news) → Q r { s with heap := h', toks := tk' }) →
   (∀ (C : Addr) (spot : Nat) (e : Addr) (G h' : Heap) (tk' : Nat), Thr C spot → Fr h₀ L G m → Thrown base G (envX cn cs L a ccd cl :: outer) C spot e (led ++ news) h' → G.UpToSlots h' → E (.ref e) { s with heap := h', toks := tk' }) →
   codeAny (model PySem.Challenge.pw_pf0162_01 w) (ktrTop dp un gd cn cs L a ccd cl outer) (.call (.ref f) ⟨vs, []⟩) (fun r s' => match r with | .ok (.ret v) => Q v s' | .ok _ => False | .error e => E e s') s
theorem put_ahead {h₀ h : Heap} {L : Addr} {a b c t : Addr × Obj} {rest : List (Addr × Obj)} (N : News h₀ L h (a :: b :: c :: rest)) (ht : t ∈ rest) : News h₀ L h (a :: b :: c :: t :: rest) := fun p hp => N p (by
  rcases List.mem_cons.mp hp with rfl | hp
  · exact .head _
  rcases List.mem_cons.mp hp with rfl | hp
  · exact .tail _ (.head _)
  rcases List.mem_cons.mp hp with rfl | hp
  · exact .tail _ (.tail _ (.head _))
  rcases List.mem_cons.mp hp with rfl | hp
  · exact .tail _ (.tail _ (.tail _ ht))
  exact .tail _ (.tail _ (.tail _ hp)))
theorem drop_4th {h₀ h : Heap} {L : Addr} {a b c t : Addr × Obj} {rest : List (Addr × Obj)} (N : News h₀ L h (a :: b :: c :: t :: rest)) : News h₀ L h (a :: b :: c :: rest) := fun p hp => N p (by
  rcases List.mem_cons.mp hp with rfl | hp
  · exact .head _
  rcases List.mem_cons.mp hp with rfl | hp
  · exact .tail _ (.head _)
  rcases List.mem_cons.mp hp with rfl | hp
  · exact .tail _ (.tail _ (.head _))
  exact .tail _ (.tail _ (.tail _ (.tail _ hp))))
theorem sep_dup {led news : List (Addr × Obj)} {t : Addr × Obj} (h : ∀ p ∈ led, ∀ q ∈ news, q.1 ≠ p.1) (ht : t ∈ news) : ∀ p ∈ led, ∀ q ∈ t :: news, q.1 ≠ p.1 := fun p hp q hq => by
  rcases List.mem_cons.mp hq with rfl | hq
  · exact h p hp _ ht
  · exact h p hp q hq
theorem lit_endc : (PySem.Str.ofString "end").1.toList = codes "end" := by decide +kernel
set_option maxHeartbeats 8000000 in
theorem take_says {w : World} {x dx D t : Addr} {refs vs : List Value} {c k : Nat} {ta tb tc : Tok} {row : Row} (hr : refs.length ≤ 1000) (h1 : 1 ≤ refs.length) (ho : dx < x) (ho2 : x < D) (hk : k ≤ 1000) (ht : refs.getD (min (k + 0) (refs.length - 1)) .none = .ref t) (hrow : RowIs row vs) :
   SaysR w 4 48 168 [.ref x] (hereLed w x dx D refs c k ta tb tc) [(t, tupObj vs)] (fun news r led => r = .ref t ∧ ∃ tc', led = hereLed w x dx D refs c (if row.kind = codes "end" then k else k + 1) ta tb tc') (fun _ _ => False) := by
  intro loose mean mg mb dp un gd cn cs ac ccd cl outer A₀ base h₀ L m s Q E news B F X N hro T hkf hd hu hsep hret hthrow
  dsimp only [List.cons_append, List.nil_append] at N
  have htm := hro _ (.head _)
  have n1 : ∀ p ∈ news, p.1 ≠ x := hsep (x, instObj 200 dx) (.head _)
  have n2 : ∀ p ∈ news, p.1 ≠ dx := hsep (dx, hereDict w D k ta tb tc) (.tail _ (.head _))
  have n3 : ∀ p ∈ news, p.1 ≠ D := hsep (D, PySem.W.listOf ⟨refs⟩ c) (.tail _ (.tail _ (.head _)))
  have n4 := neN (n2 _ htm)
  have n5 := ltN ho
  have n6 := ltN ho2
  dsimp only at n4
  obtain ⟨u1, u2, u3, u4, u5, rfl⟩ := hrow
  have N0 := put_ahead N htm
  clear N
  k_dflt cell_enter
  refine toks_any ?_
  intro tk0
  k_steps
  refine Hold.go ?_
  rename Fr _ _ _ _ => F1
  rename News _ _ _ _ => N1
  rename Below _ _ _ _ => B1
  rename Frag.In _ _ => X1
  rename Top _ _ _ _ _ _ => T1
  refine peek_says (tt := 0) (.inl ⟨rfl, rfl⟩) hr h1 ho ho2 B1 F1 X1 N1 T1 rfl (by first | ktr_room | omega) (by first | ktr_units | omega) ?_ ?_
  · exact sep_dup hsep htm
  rintro r9 led9 h9 tk9 ⟨rfl, rfl⟩ F9 N9
  dsimp only [List.cons_append, List.nil_append, hereDict] at N9
  rw [ht]
  clear N1
  k_steps
  · have e1 : row.kind = (Str.ofString "end").1.toList := by assumption
    rw [lit_endc] at e1
    rename News h₀ _ _ _ => N2
    rename Fr h₀ _ _ _ => F2
    exact hret _ _ _ _ ⟨rfl, _, rfl⟩ F2 (by rw [if_pos e1]; exact drop_4th N2)
  · have e1 : ¬ row.kind = (Str.ofString "end").1.toList := by assumption
    rw [lit_endc] at e1
    rename News h₀ _ _ _ => N2
    rename Fr h₀ _ _ _ => F2
    exact hret _ _ _ _ ⟨rfl, _, rfl⟩ F2 (by rw [if_neg e1]; exact drop_4th N2)
end
section
local macro_rules | `(tactic| walk_at $k:str) => if ["call type:list"].contains k.getString then `(tactic| refine Hold.out ?_) else Lean.Macro.throwUnsupported
theorem rot3 {h₀ h : Heap} {L : Addr} {a b c : Addr × Obj} {rest : List (Addr × Obj)} (N : News h₀ L h (c :: a :: b :: rest)) : News h₀ L h ([a, b, c] ++ rest) := fun p hp => N p (by
  simp only [List.mem_cons, List.mem_append, List.not_mem_nil, or_false] at hp ⊢
  rcases hp with (h | h | h) | h <;> simp [h])
set_option maxHeartbeats 8000000 in
theorem words_says {w : World} {l : Addr} {refs : List Value} {n : Nat} (hrl : refs.length ≤ 1001) :
  ∀ {loose : List Str} {mean : ExcName → Option Value} {mg mb : Str → Option Value} {dp un : Nat} {gd : Option (List Code)} {cn : Str} {cs : Scope} {a : Addr} {ccd : Value} {cl : List (Str × Addr)} {outer : List Env} {A₀ : Around} {base h₀ : Heap} {L : Addr} {m : Str → Option Value} {s : Shared} {Q E : Value → Shared → Prop} {news : List (Addr × Obj)},
   Below A₀ base outer h₀ → Fr h₀ L s.heap m → (hd.heap_39 w.params).In h₀ → News h₀ L s.heap news → (l, PySem.W.listOf ⟨refs⟩ n) ∈ news → Top topProg loose mean mg mb h₀ → cs.kind = .function →
   dp + 4 < recursionLimit → un + 48 < cLine →
   (∀ (x dx D : Addr) (c : Nat) (ta tb tc : Tok) (h' : Heap) (tk' : Nat), (∀ q ∈ news, q.1 < dx) → dx < x → x < D → Fr h₀ L h' m → News h₀ L h' (hereLed w x dx D refs c 0 ta tb tc ++ news) → Q (.ref x) { s with heap := h', toks := tk' }) →
   wpAny (model PySem.Challenge.pw_pf0162_01 w) (ktrTop dp un gd cn cs L a ccd cl outer) (call (.ref 200) [.ref l]) Q E s := by
  intro loose mean mg mb dp un gd cn cs ac ccd cl outer A₀ base h₀ L m s Q E news B F X N hm T hkf hd hu hret
  k_dflt (refine' call_cls ?k1 ?k2 ?k3 ?k4 ?k5 ?k6 ?_; (case k1 => exact F); (case k2 => k_asm); (case k3 => exact N); (case k4 => k_is); (case k5 => k_is); (case k6 => k_is); k_whole)
  intro x dx h3 F3 N3 l3 l4
  have hnx : ∀ q ∈ news, q.1 < dx := by first | exact l3 | exact ktn_ltOf l3
  replace l3 := allLt_of l3
  k_lt2 l4
  clear F N
  k_dflt (refine' code_def ?k1 ?k2 ?k3 ?k4 ?k5 ?kA ?kF ?kK ?k6 ?k7 ?k8 ?k9 ?kB ?_ ?c2 ?c3 ?c4 ?c5; (case kA => exact rfl); (case kF => exact rfl); (case kK => first | exact rfl | assumption); (case k1 => k_asm); (case k2 => k_asm); (case k3 => k_asm); (case k4 => k_asm); (case k5 => k_asm); (case k6 => k_is); (case k7 => k_is); (case k8 => ktr_room); (case k9 => exact BindsTo.of_eq rfl); (case c5 => decide); (case kB => exact locs rfl); (case c2 => exact rfl); (case c3 => exact rfl); (case c4 => exact rfl); k_whole; intro g3 L3 h4 FG3 F4 N4 B3 X3 T3; (try dsimp only); (try k_lift B3); (try k_fold))
  k_steps
  refine Hold.go ?_
  (with_reducible rename Fr _ _ _ _ => F5); (with_reducible rename News _ _ _ _ => N5)
  refine kup_listOf (b := l) (its2 := ⟨refs⟩) (n2 := n) (zs := refs) F5 N5 (.tail _ (.tail _ hm)) rfl (fun D c h6 F6 N6 l6 => ?_) (by show refs.length ≤ sizeLine; exact Nat.le_trans hrl (by decide))
  dsimp only
  clear F5 N5
  k_lt l6
  k_steps
  rename News h₀ _ _ _ => N2
  rename Fr h₀ _ _ _ => F2
  exact hret x dx D c _ _ _ _ _ hnx l4 l6.1 F2 (rot3 N2)
end
section
local macro_rules | `(tactic| k_all) => `(tactic| assumption)
local macro_rules | `(tactic| walk_at "compareOp In str ref") => `(tactic| ((with_reducible show wpAny _ _ (compareOp CmpOp.In (Value.str (S _) _) (Value.ref 68)) _ _ _); (with_reducible rename Fr _ _ _ _ => F'); refine r_in_keywords (Frag.In.keeps (by assumption) F'.keep) ?_))
local macro_rules | `(tactic| walk_at $k:str) => if ["exec Raise", "exec Raise some Call none", "exec Raise some none"].contains k.getString then `(tactic| refine Hold.out ?_) else Lean.Macro.throwUnsupported
theorem lit_namec : (PySem.Str.ofString "name").1.toList = codes "name" := by decide +kernel
theorem drop_5th {h₀ h : Heap} {L : Addr} {z a b c t : Addr × Obj} {rest : List (Addr × Obj)} (N : News h₀ L h (z :: a :: b :: c :: t :: rest)) : News h₀ L h (z :: a :: b :: c :: rest) := fun p hp => by
  rcases List.mem_cons.mp hp with rfl | hp
  · exact N _ (.head _)
  · exact drop_4th (fun q hq => N q (.tail _ hq)) p hp
def NameOut (w : World) (x dx D : Addr) (refs : List Value) (c k : Nat) (ta tb : Tok) (row : Row) (news : List (Addr × Obj)) (r : Value) (led : List (Addr × Obj)) : Prop :=
  ∃ tn u2 u3 tc', r = .ref tn ∧ led = (tn, tupObj [.str (S row.text) u2, .int row.spot u3]) :: hereLed w x dx D refs c (k + 1) ta tb tc' ∧ (∀ q ∈ news, q.1 < tn)
set_option maxHeartbeats 8000000 in
theorem name_says {w : World} {x dx D t : Addr} {refs vs : List Value} {c k : Nat} {ta tb tc : Tok} {row : Row} (hr : refs.length ≤ 1000) (h1 : 1 ≤ refs.length) (ho : dx < x) (ho2 : x < D) (hk : k ≤ 1000) (ht : refs.getD (min (k + 0) (refs.length - 1)) .none = .ref t) (hrow : RowIs row vs) :
   SaysR w 6 48 190 [.ref x] (hereLed w x dx D refs c k ta tb tc) [(t, tupObj vs)] (fun news r led => row.kind = codes "name" ∧ row.text ∉ keywords ∧ NameOut w x dx D refs c k ta tb row news r led) (fun C spot => C = 64 ∧ spot = row.spot ∧ (row.kind ≠ codes "name" ∨ row.text ∈ keywords)) := by
  intro loose mean mg mb dp un gd cn cs ac ccd cl outer A₀ base h₀ L m s Q E news B F X N hro T hkf hd hu hsep hret hthrow
  dsimp only [List.cons_append, List.nil_append] at N
  have htm := hro _ (.head _)
  have n1 : ∀ p ∈ news, p.1 ≠ x := hsep (x, instObj 200 dx) (.head _)
  have n2 : ∀ p ∈ news, p.1 ≠ dx := hsep (dx, hereDict w D k ta tb tc) (.tail _ (.head _))
  have n3 : ∀ p ∈ news, p.1 ≠ D := hsep (D, PySem.W.listOf ⟨refs⟩ c) (.tail _ (.tail _ (.head _)))
  have n4 := neN (n2 _ htm)
  have n5 := ltN ho
  have n6 := ltN ho2
  dsimp only at n4
  obtain ⟨u1, u2, u3, u4, u5, rfl⟩ := hrow
  have N0 := put_ahead N htm
  clear N
  k_dflt cell_enter
  rename_i g L' h' FG F' N' B' X' T'
  refine toks_any ?_
  intro tk0
  k_steps
  refine Hold.go ?_
  rename Fr _ _ _ _ => F1
  rename News _ _ _ _ => N1
  refine peek_says (tt := 0) (.inl ⟨rfl, rfl⟩) hr h1 ho ho2 B' F1 X' N1 T' rfl (by first | ktr_room | omega) (by first | ktr_units | omega) ?_ ?_
  · exact sep_dup hsep htm
  rintro r9 led9 h9 tk9 ⟨rfl, rfl⟩ F9 N9
  dsimp only [List.cons_append, List.nil_append, hereDict] at N9
  rw [ht]
  clear N1
  k_steps
  · have e1 : row.text ∈ keywords := by assumption
    refine Hold.go ?_
    refine raise_ready rfl ?_
    k_steps
    refine Hold.go ?_
    (with_reducible rename Fr _ _ _ _ => F2); (with_reducible rename News _ _ _ _ => N2)
    refine fault_made (.inr rfl) B' F2 X' (drop_4th N2) T' rfl (by first | ktr_room | omega) (by first | ktr_units | omega) fun e3 h3 tk3 d3 hk3 he3 F3 hE3 => ?_
    refine ready_of (.inr rfl) X' F3 hE3 ?_
    show wpAny _ _ (leaving _ _) _ _ _
    refine thrown_raise B' F2 (drop_4th N2) hk3 F3 hE3 rfl rfl fun h4 R4 sm4 => ?_
    exact hthrow 64 _ e3 _ h4 _ ⟨rfl, rfl, .inr e1⟩ FG R4 sm4
  · have e1 : row.kind = (Str.ofString "name").1.toList := by assumption
    have e2 : ¬ row.text ∈ keywords := by assumption
    rw [lit_namec] at e1
    rename News h₀ _ _ _ => N2
    rename Fr h₀ _ _ _ => F2
    rename (_ < _ ∧ _) => l2
    exact hret _ _ _ _ ⟨e1, e2, _, _, _, _, rfl, rfl, ktn_ltOf l2.2.2.2.2⟩ F2 (drop_5th N2)
  · have e1 : ¬ row.kind = (Str.ofString "name").1.toList := by assumption
    rw [lit_namec] at e1
    refine Hold.go ?_
    refine raise_ready rfl ?_
    k_steps
    refine Hold.go ?_
    (with_reducible rename Fr _ _ _ _ => F2); (with_reducible rename News _ _ _ _ => N2)
    refine fault_made (.inr rfl) B' F2 X' (drop_4th N2) T' rfl (by first | ktr_room | omega) (by first | ktr_units | omega) fun e3 h3 tk3 d3 hk3 he3 F3 hE3 => ?_
    refine ready_of (.inr rfl) X' F3 hE3 ?_
    show wpAny _ _ (leaving _ _) _ _ _
    refine thrown_raise B' F2 (drop_4th N2) hk3 F3 hE3 rfl rfl fun h4 R4 sm4 => ?_
    exact hthrow 64 _ e3 _ h4 _ ⟨rfl, rfl, .inl e1⟩ FG R4 sm4
end
section
local macro_rules | `(tactic| k_all) => `(tactic| assumption)
local macro_rules | `(tactic| walk_at $k:str) => if ["exec Raise", "exec Raise some Call none", "exec Raise some none", "setItem ref int"].contains k.getString then `(tactic| refine Hold.out ?_) else Lean.Macro.throwUnsupported
theorem lit_gt : (PySem.Str.ofString ">").1.toList = [62] := by decide +kernel
theorem lit_gtS : PySem.Str.ofString ">" = S [62] := by decide +kernel
theorem lit_signc : (PySem.Str.ofString "sign").1.toList = codes "sign" := by decide +kernel
theorem move_1 {h₀ h : Heap} {L : Addr} {z a b c : Addr × Obj} {rest : List (Addr × Obj)} (N : News h₀ L h (z :: a :: b :: c :: rest)) : News h₀ L h (a :: b :: c :: z :: rest) := fun p hp => N p (by
  rcases List.mem_cons.mp hp with rfl | hp
  · exact .tail _ (.head _)
  rcases List.mem_cons.mp hp with rfl | hp
  · exact .tail _ (.tail _ (.head _))
  rcases List.mem_cons.mp hp with rfl | hp
  · exact .tail _ (.tail _ (.tail _ (.head _)))
  rcases List.mem_cons.mp hp with rfl | hp
  · exact .head _
  exact .tail _ (.tail _ (.tail _ (.tail _ hp))))
theorem move_2 {h₀ h : Heap} {L : Addr} {y z a b c t : Addr × Obj} {rest : List (Addr × Obj)} (N : News h₀ L h (y :: z :: a :: b :: c :: t :: rest)) : News h₀ L h (a :: b :: c :: z :: y :: rest) := fun p hp => N p (by
  rcases List.mem_cons.mp hp with rfl | hp
  · exact .tail _ (.tail _ (.head _))
  rcases List.mem_cons.mp hp with rfl | hp
  · exact .tail _ (.tail _ (.tail _ (.head _)))
  rcases List.mem_cons.mp hp with rfl | hp
  · exact .tail _ (.tail _ (.tail _ (.tail _ (.head _))))
  rcases List.mem_cons.mp hp with rfl | hp
  · exact .tail _ (.head _)
  rcases List.mem_cons.mp hp with rfl | hp
  · exact .head _
  exact .tail _ (.tail _ (.tail _ (.tail _ (.tail _ (.tail _ hp))))))
theorem set_led {prog : Program} {w : World} {A : Around} {E : Value → Shared → Prop} {s : Shared} {h₀ : Heap} {L : Addr} {m : PySem.Str → Option Value} {pre post : List (Addr × Obj)} {D : Addr} {vs : List Value} {n : Nat} {k : Nat} {t : Tok} {v : Value} {Q : Unit → Shared → Prop}
    (F : Fr h₀ L s.heap m) (N : News h₀ L s.heap (pre ++ (D, PySem.W.listOf ⟨vs⟩ n) :: post)) (a : ∀ p ∈ pre, p.1 ≠ D) (b : ∀ p ∈ post, p.1 ≠ D) (h1 : k < vs.length) (hfit : k < 2 ^ 62)
    (h : ∀ h', Fr h₀ L h' m → News h₀ L h' (pre ++ (D, PySem.W.listOf ⟨vs.set k v⟩ n) :: post) → Q () { s with heap := h' }) :
    wpAny (model prog w) A (setItem (.ref D) (.int (k : Nat) t) v) Q E s := by
  have z := N (D, PySem.W.listOf ⟨vs⟩ n) (List.mem_append.mpr (.inr (.head _)))
  refine ki_setAt z.1 (by walk_at "om") (by walk_at "om") (by show (k : Int) < (vs.length : Int); omega) (h _ (F.change (Heap.SameBut.update ..) z.2.1 z.2.2) (ki_turn _ N a b ?_ ?_))
  · show (⟨vs⟩ : Array Value).setIfInBounds ((k : Nat) : Int).toNat v = ⟨vs.set k v⟩
    apply Array.toList_inj.mp
    simp
  · simp
def SplitOut (w : World) (x dx D : Addr) (refs : List Value) (c k : Nat) (ta tb : Tok) (row : Row) (news : List (Addr × Obj)) (r : Value) (led : List (Addr × Obj)) : Prop :=
  ∃ tr vr, r = .ref tr ∧ RowIs (signRow [62] row.spot) vr ∧ row.kind = codes "sign" ∧
    ((row.text = [62] ∧ ∃ tc', led = hereLed w x dx D refs c (k + 1) ta tb tc' ++ [(tr, tupObj vr)]) ∨
     (row.text.take 1 = [62] ∧ row.text ≠ [62] ∧ ∃ tn vn tc', RowIs (signRow (row.text.drop 1) (row.spot + 1)) vn ∧ x < tn ∧ dx < tn ∧ D < tn ∧ led = hereLed w x dx D (refs.set k (.ref tn)) c k ta tb tc' ++ [(tn, tupObj vn), (tr, tupObj vr)]))
set_option maxHeartbeats 8000000 in
theorem split_says {w : World} {x dx D t : Addr} {refs vs : List Value} {c k : Nat} {ta tb tc : Tok} {row : Row} (hr : refs.length ≤ 1000) (h1 : 1 ≤ refs.length) (ho : dx < x) (ho2 : x < D) (hk : k < refs.length) (ht : refs.getD (min (k + 0) (refs.length - 1)) .none = .ref t) (hrow : RowIs row vs) (htx : row.text.length ≤ 1000) :
   SaysR w 6 48 197 [.ref x] (hereLed w x dx D refs c k ta tb tc) [(t, tupObj vs)] (SplitOut w x dx D refs c k ta tb row) (fun C spot => C = 64 ∧ spot = row.spot ∧ (row.kind ≠ codes "sign" ∨ row.text.take 1 ≠ [62])) := by
  intro loose mean mg mb dp un gd cn cs ac ccd cl outer A₀ base h₀ L m s Q E news B F X N hro T hkf hd hu hsep hret hthrow
  dsimp only [List.cons_append, List.nil_append] at N
  have htm := hro _ (.head _)
  have n1 : ∀ p ∈ news, p.1 ≠ x := hsep (x, instObj 200 dx) (.head _)
  have n2 : ∀ p ∈ news, p.1 ≠ dx := hsep (dx, hereDict w D k ta tb tc) (.tail _ (.head _))
  have n3 : ∀ p ∈ news, p.1 ≠ D := hsep (D, PySem.W.listOf ⟨refs⟩ c) (.tail _ (.tail _ (.head _)))
  have n4 := neN (n2 _ htm)
  have n7 := neN (n3 _ htm)
  have n5 := ltN ho
  have n6 := ltN ho2
  dsimp only at n4 n7
  obtain ⟨u1, u2, u3, u4, u5, rfl⟩ := hrow
  have N0 := put_ahead N htm
  clear N
  k_dflt cell_enter
  rename_i g L' h' FG F' N' B' X' T'
  refine toks_any ?_
  intro tk0
  k_steps
  refine Hold.go ?_
  rename Fr _ _ _ _ => F1
  rename News _ _ _ _ => N1
  refine peek_says (tt := 0) (.inl ⟨rfl, rfl⟩) hr h1 ho ho2 B' F1 X' N1 T' rfl (by first | ktr_room | omega) (by first | ktr_units | omega) ?_ ?_
  · exact sep_dup hsep htm
  rintro r9 led9 h9 tk9 ⟨rfl, rfl⟩ F9 N9
  dsimp only [List.cons_append, List.nil_append, hereDict] at N9
  rw [ht]
  clear N1
  have htx6 : row.text.length ≤ 1000000 := by omega
  k_steps
  · have e1 : row.text = (Str.ofString ">").1.toList := by assumption
    have e2 : row.kind = (Str.ofString "sign").1.toList := by assumption
    rw [lit_gt] at e1
    rw [lit_signc] at e2
    rename News h₀ _ _ _ => N2
    rename Fr h₀ _ _ _ => F2
    exact hret _ _ _ _ ⟨_, _, rfl, ⟨_, _, _, 0, 0, by rw [lit_sign, lit_gtS]; rfl⟩, e2, .inl ⟨e1, _, rfl⟩⟩ F2 (move_1 (drop_5th N2))
  · refine Hold.go ?_
    have e1 : ¬ row.text = (Str.ofString ">").1.toList := by assumption
    have e2 : row.kind = (Str.ofString "sign").1.toList := by assumption
    have e3 : List.take (Int.toNat 1) row.text = (Str.ofString ">").1.toList := by assumption
    rw [lit_gt] at e1 e3
    rw [lit_signc] at e2
    (with_reducible rename Fr _ _ _ _ => F2); (with_reducible rename News _ _ _ _ => N2)
    rename (_ < _ ∧ _) => l2
    refine set_led (vs := refs) (D := D) (k := (k : Nat)) F2 N2 (pre := [(_, _), (_, _), (_, _)]) (post := (_, _) :: news) ?_ ?_ (by walk_at "om") (by walk_at "om") fun h3 F3 N3 => ?_
    · exact List.forall_mem_cons.mpr ⟨Nat.ne_of_gt l2.2.2.1, List.forall_mem_cons.mpr ⟨by k_ne, List.forall_mem_cons.mpr ⟨by k_ne, List.forall_mem_nil _⟩⟩⟩
    · exact List.forall_mem_cons.mpr ⟨by k_ne, n3⟩
    dsimp only [List.cons_append, List.nil_append] at N3 ⊢
    clear F2 N2
    k_steps
    rename News h₀ _ _ _ => N4
    rename Fr h₀ _ _ _ => F4
    exact hret _ _ _ _ ⟨_, _, rfl, ⟨_, _, _, 0, 0, by rw [lit_sign, lit_gtS]; rfl⟩, e2, .inr ⟨e3, e1, _, _, _, ⟨_, _, _, 0, 0, by rw [lit_sign]; rfl⟩, l2.1, l2.2.1, l2.2.2.1, rfl⟩⟩ F4 (move_2 N4)
  · have e1 : ¬ List.take (Int.toNat 1) row.text = (Str.ofString ">").1.toList := by assumption
    rw [lit_gt] at e1
    refine Hold.go ?_
    refine raise_ready rfl ?_
    k_steps
    refine Hold.go ?_
    (with_reducible rename Fr _ _ _ _ => F2); (with_reducible rename News _ _ _ _ => N2)
    refine fault_made (.inr rfl) B' F2 X' (drop_4th N2) T' rfl (by first | ktr_room | omega) (by first | ktr_units | omega) fun e3 h3 tk3 d3 hk3 he3 F3 hE3 => ?_
    refine ready_of (.inr rfl) X' F3 hE3 ?_
    show wpAny _ _ (leaving _ _) _ _ _
    refine thrown_raise B' F2 (drop_4th N2) hk3 F3 hE3 rfl rfl fun h4 R4 sm4 => ?_
    exact hthrow 64 _ e3 _ h4 _ ⟨rfl, rfl, .inr e1⟩ FG R4 sm4
  · have e1 : ¬ row.kind = (Str.ofString "sign").1.toList := by assumption
    rw [lit_signc] at e1
    refine Hold.go ?_
    refine raise_ready rfl ?_
    k_steps
    refine Hold.go ?_
    (with_reducible rename Fr _ _ _ _ => F2); (with_reducible rename News _ _ _ _ => N2)
    refine fault_made (.inr rfl) B' F2 X' (drop_4th N2) T' rfl (by first | ktr_room | omega) (by first | ktr_units | omega) fun e3 h3 tk3 d3 hk3 he3 F3 hE3 => ?_
    refine ready_of (.inr rfl) X' F3 hE3 ?_
    show wpAny _ _ (leaving _ _) _ _ _
    refine thrown_raise B' F2 (drop_4th N2) hk3 F3 hE3 rfl rfl fun h4 R4 sm4 => ?_
    exact hthrow 64 _ e3 _ h4 _ ⟨rfl, rfl, .inl e1⟩ FG R4 sm4
end
section
local macro_rules | `(tactic| k_all) => `(tactic| assumption)
local macro_rules | `(tactic| walk_at "subscriptTail Name Constant ref int") => `(tactic| ((with_reducible show wpAny _ _ (subscriptTail _ _ (Value.ref _) (Value.int _ _)) _ _ _); (with_reducible rename News _ _ _ _ => N'); refine item_litK (vs := [Value.int _ _, Value.int _ _]) (News.isList N' (by first | exact .head _ | exact .tail _ (.head _))) (by decide) (by decide) (by rfl) ?_))
local macro_rules | `(tactic| walk_at $k:str) => if ["setItem ref int"].contains k.getString then `(tactic| refine Hold.out ?_) else Lean.Macro.throwUnsupported
abbrev srcObj (a b : Nat) (ta tb : Tok) (n : Nat) : Obj := PySem.W.listOf ⟨[.int a ta, .int b tb]⟩ n
theorem fdiv_nat (x y : Nat) : Int.fdiv (x : Int) (y : Int) = ((x / y : Nat) : Int) := by simp [Int.fdiv_eq_ediv_of_nonneg]
theorem fmod_nat (x y : Nat) : Int.fmod (x : Int) (y : Int) = ((x % y : Nat) : Int) := by simp [Int.fmod_eq_emod_of_nonneg]
def DrawOut (src : Addr) (n top : Nat) (_news : List (Addr × Obj)) (r : Value) (led : List (Addr × Obj)) : Prop :=
  ∃ d td a b ta tb, d < top ∧ r = .int (d : Nat) td ∧ led = [(src, srcObj a b ta tb n)]
set_option maxHeartbeats 8000000 in
theorem law_take_says {w : World} {src : Addr} {a b n top : Nat} {ta tb tt : Tok} (ht : 1 ≤ top) (htop : top ≤ 1000000) :
   Says w 2 24 218 [.ref src, .int (top : Nat) tt] [(src, srcObj a b ta tb n)] (DrawOut src n top) := by
  intro loose mean mg mb dp un gd cn cs ac ccd cl outer A₀ base h₀ L m s Q E news B F X N T hkf hd hu hsep hret
  dsimp only [List.cons_append, List.nil_append] at N
  have n1 : ∀ p ∈ news, p.1 ≠ src := hsep (src, srcObj a b ta tb n) (.head _)
  refine wpAny_call ?_
  k_dflt cell_enter
  rename_i g L' h' FG F' N' B' X' T'
  refine toks_any ?_
  intro tk0
  have ht2 : (top : Int) ≠ 0 := by omega
  have ht3 : (0 : Int) < (top : Int) := by omega
  k_steps
  · refine Hold.go ?_
    (with_reducible rename Fr _ _ _ _ => F2); (with_reducible rename News _ _ _ _ => N2)
    refine set_led (vs := [.int a ta, .int b tb]) (D := src) (k := 0) F2 N2 (pre := []) (by simp) n1 (by show 0 < 2; decide) (by decide) fun h3 F3 N3 => ?_
    dsimp only [List.nil_append, List.set] at N3 ⊢
    rw [show Int.fdiv ([(a : Int), (b : Int)].getD (Int.toNat 0) 0) (top : Int) = ((a / top : Nat) : Int) from fdiv_nat a top] at N3
    rw [show Int.fmod ([(a : Int), (b : Int)].getD (Int.toNat 0) 0) (top : Int) = ((a % top : Nat) : Int) from fmod_nat a top] at *
    clear F2 N2
    k_steps
    rename News h₀ _ _ _ => N4
    rename Fr h₀ _ _ _ => F4
    exact hret _ _ _ _ ⟨a % top, _, a / top, b, _, _, Nat.mod_lt _ ht, rfl, rfl⟩ F4 N4
  · refine Hold.go ?_
    (with_reducible rename Fr _ _ _ _ => F2); (with_reducible rename News _ _ _ _ => N2)
    refine set_led (vs := [.int a ta, .int b tb]) (D := src) (k := 1) F2 N2 (pre := []) (by simp) n1 (by show 1 < 2; decide) (by decide) fun h3 F3 N3 => ?_
    dsimp only [List.nil_append, List.set] at N3 ⊢
    rw [show Int.fmod ([(a : Int), (b : Int)].getD (Int.toNat 1) 0 * 39373 + 7) 2147483647 = (((b * 39373 + 7) % 2147483647 : Nat) : Int) from fmod_nat (b * 39373 + 7) 2147483647] at N3
    have hb2 : (b * 39373 + 7) % 2147483647 < 2147483647 := Nat.mod_lt _ (by decide)
    generalize (b * 39373 + 7) % 2147483647 = b2 at *
    have hb3 : ((b2 : Nat) : Int) < 2147483647 := by omega
    have hb4 : (0 : Int) ≤ ((b2 : Nat) : Int) := by omega
    have hmul : IntMulOk ([(a : Int), (b2 : Int)].getD (Int.toNat 1) 0) ([(a : Int), (b2 : Int)].getD (Int.toNat 1) 0) := by
      show IntMulOk (b2 : Int) (b2 : Int)
      exact IntMulOk.of_left (intBits_le_64 (by walk_at "om") (by walk_at "om"))
    clear F2 N2
    k_steps
    rw [show Int.fmod (Int.fdiv (Int.fmod ([(a : Int), (b2 : Int)].getD (Int.toNat 1) 0 * [(a : Int), (b2 : Int)].getD (Int.toNat 1) 0) 2147483629) 32) (top : Int) = ((b2 * b2 % 2147483629 / 32 % top : Nat) : Int) from by
      show Int.fmod (Int.fdiv (Int.fmod ((b2 : Int) * (b2 : Int)) 2147483629) 32) (top : Int) = _
      rw [show (b2 : Int) * (b2 : Int) = ((b2 * b2 : Nat) : Int) from by simp, show Int.fmod ((b2 * b2 : Nat) : Int) 2147483629 = ((b2 * b2 % 2147483629 : Nat) : Int) from fmod_nat _ 2147483629,
        show Int.fdiv ((b2 * b2 % 2147483629 : Nat) : Int) 32 = ((b2 * b2 % 2147483629 / 32 : Nat) : Int) from fdiv_nat _ 32, fmod_nat]]
    rename News h₀ _ _ _ => N4
    rename Fr h₀ _ _ _ => F4
    exact hret _ _ _ _ ⟨_, _, a, b2, _, _, Nat.mod_lt _ ht, rfl, rfl⟩ F4 N4
end
section
theorem pool_end {h₀ : Heap} {L : Addr} {m : Str → Option Value} {s : Shared} {Q : Value → Shared → Prop} {news : List (Addr × Obj)}
   (hret : ∀ (src : Addr) (x y n : Nat) (tx ty : Tok) (h' : Heap) (tk' : Nat), (∀ q ∈ news, q.1 < src) → Fr h₀ L h' m → News h₀ L h' ((src, srcObj x y tx ty n) :: news) → Q (.ref src) { s with heap := h', toks := tk' })
   {src : Addr} {x y : Int} {n : Nat} {tx ty : Tok} {h' : Heap} {tk' : Nat} (F : Fr h₀ L h' m) (N : News h₀ L h' ((src, PySem.W.listOf #[.int x tx, .int y ty] n) :: news)) (hx : 0 ≤ x) (hy : 0 ≤ y) (hl : ∀ q ∈ news, q.1 < src) : Q (.ref src) { s with heap := h', toks := tk' } := by
  rw [← Int.toNat_of_nonneg hx, ← Int.toNat_of_nonneg hy] at N
  exact hret src x.toNat y.toNat n tx ty h' tk' hl F N
set_option maxHeartbeats 8000000 in
theorem law_pool_says {w : World} {sl : Addr} {vs : List Value} {ns : List Int} {k : Nat} {tk : Tok} (hi : IntsAre vs ns) (hl : ns.length ≤ 63) (hk : k ≤ 3) :
  ∀ {loose : List Str} {mean : ExcName → Option Value} {mg mb : Str → Option Value} {dp un : Nat} {gd : Option (List Code)} {cn : Str} {cs : Scope} {a : Addr} {ccd : Value} {cl : List (Str × Addr)} {outer : List Env} {A₀ : Around} {base h₀ : Heap} {L : Addr} {m : Str → Option Value} {s : Shared} {Q E : Value → Shared → Prop} {news : List (Addr × Obj)},
   Below A₀ base outer h₀ → Fr h₀ L s.heap m → (hd.heap_39 w.params).In h₀ → News h₀ L s.heap news → Top topProg loose mean mg mb h₀ → h₀.IsList sl vs.toArray → cs.kind = .function →
   dp + 2 < recursionLimit → un + 24 < cLine →
   (∀ (src : Addr) (x y n : Nat) (tx ty : Tok) (h' : Heap) (tk' : Nat), (∀ q ∈ news, q.1 < src) → Fr h₀ L h' m → News h₀ L h' ((src, srcObj x y tx ty n) :: news) → Q (.ref src) { s with heap := h', toks := tk' }) →
   wpAny (model PySem.Challenge.pw_pf0162_01 w) (ktrTop dp un gd cn cs L a ccd cl outer) (call (.ref 211) [.ref sl, .int (k : Nat) tk]) Q E s := by
  intro loose mean mg mb dp un gd cn cs ac ccd cl outer A₀ base h₀ L m s Q E news B F X N T hsl hkf hd hu hret
  refine wpAny_call ?_
  k_dflt cell_enter
  rename_i g L' h' FG F' N' B' X' T'
  refine toks_any ?_
  intro tk0
  have hslg : g.IsList sl vs.toArray := Heap.IsList.at hsl fun o e => FG.keep _ o e
  k_steps
  all_goals
    rename News h₀ _ _ _ => N4
    rename Fr h₀ _ _ _ => F4
    refine pool_end hret F4 N4 ?_ ?_ ?_
    · first | exact Int.le_refl 0 | exact Int.le_trans (by decide) (by assumption) | omega
    · exact Int.fmod_nonneg_of_pos _ (by decide)
    · first | assumption | exact ktn_ltOf (by assumption)
end
section
local macro_rules | `(tactic| walk_at "call builtin:len") => `(tactic| ((with_reducible show wpAny _ _ (call (Value.builtin "len") [Value.ref _]) _ _ _); refine Hold.out ?_))
local macro_rules | `(tactic| k_all) => `(tactic| assumption)
local macro_rules | `(tactic| walk_at $k:str) => if ["subscriptTail Name Call ref int"].contains k.getString then `(tactic| refine Hold.out ?_) else Lean.Macro.throwUnsupported
theorem swap_2 {h₀ h : Heap} {L : Addr} {a b : Addr × Obj} {rest : List (Addr × Obj)} (N : News h₀ L h (a :: rest)) (hb : b ∈ rest) : News h₀ L h (a :: b :: rest) := fun p hp => N p (by
  rcases List.mem_cons.mp hp with rfl | hp
  · exact .head _
  rcases List.mem_cons.mp hp with rfl | hp
  · exact .tail _ hb
  exact .tail _ hp)
theorem drop_2nd {h₀ h : Heap} {L : Addr} {a b : Addr × Obj} {rest : List (Addr × Obj)} (N : News h₀ L h (a :: b :: rest)) : News h₀ L h (a :: rest) := fun p hp => N p (by
  rcases List.mem_cons.mp hp with rfl | hp
  · exact .head _
  exact .tail _ (.tail _ hp))
def OneOut (src : Addr) (n : Nat) (vs : List Value) (_news : List (Addr × Obj)) (r : Value) (led : List (Addr × Obj)) : Prop :=
  ∃ d a b ta tb, d < vs.length ∧ r = vs.getD d .none ∧ led = [(src, srcObj a b ta tb n)]
set_option maxHeartbeats 8000000 in
theorem law_one_says {w : World} {src th : Addr} {a b n c : Nat} {ta tb : Tok} {vs : List Value} (hv : 1 ≤ vs.length) (hv2 : vs.length ≤ 1000) :
   SaysR w 4 48 225 [.ref src, .ref th] [(src, srcObj a b ta tb n)] [(th, PySem.W.listOf ⟨vs⟩ c)] (OneOut src n vs) (fun _ _ => False) := by
  intro loose mean mg mb dp un gd cn cs ac ccd cl outer A₀ base h₀ L m s Q E news B F X N hro T hkf hd hu hsep hret _
  dsimp only [List.cons_append, List.nil_append] at N
  have n1 : ∀ p ∈ news, p.1 ≠ src := hsep (src, srcObj a b ta tb n) (.head _)
  have htm := hro _ (.head _)
  have N0 := swap_2 N htm
  clear N
  k_dflt cell_enter
  rename_i g L' h' FG F' N' B' X' T'
  refine toks_any ?_
  intro tk0
  k_steps
  refine Hold.go ?_
  (with_reducible rename Fr _ _ _ _ => F1); (with_reducible rename News _ _ _ _ => N1)
  refine call_len_list (items := ⟨vs⟩) (N1.isList (.tail _ (.head _))) (by show ((vs.length : Nat) : Int) < _; omega) ?_
  have e1 : ((⟨vs⟩ : Array Value).size : Int) = (vs.length : Int) := rfl
  rw [e1]
  k_steps
  refine Hold.go ?_
  (with_reducible rename Fr _ _ _ _ => F2); (with_reducible rename News _ _ _ _ => N2)
  refine law_take_says hv (by walk_at "om") B' F2 X' N2 T' rfl (by first | ktr_room | omega) (by first | ktr_units | omega) (sep_dup hsep htm) ?_
  rintro r9 led9 h9 tk9 ⟨d, td, a2, b2, ta2, tb2, hd2, rfl, rfl⟩ F9 N9
  dsimp only [List.cons_append, List.nil_append] at N9 ⊢
  clear N2
  k_steps
  refine Hold.go ?_
  (with_reducible rename Fr _ _ _ _ => F3); (with_reducible rename News _ _ _ _ => N3)
  refine item_litK (vs := vs) (v := vs.getD d .none) (N3.isList (.tail _ (.head _))) (by walk_at "om") (by walk_at "om") (by rw [Int.toNat_natCast, List.getD, List.getElem?_eq_getElem hd2]; rfl) ?_
  k_steps
  rename News h₀ _ _ _ => N4
  rename Fr h₀ _ _ _ => F4
  exact hret _ _ _ _ ⟨d, a2, b2, ta2, tb2, hd2, rfl, rfl⟩ F4 (drop_2nd N4)
end
section
abbrev gaps : List (List Nat) := [[32], [13], [9], [10], [13, 10], [32, 47, 47, 32, 120, 13, 10], [47, 42, 42, 47], [9, 47, 42, 32, 55, 32, 42, 47, 13]]
/-- a text is drawn from some -/
def TextOut (src : Addr) (n : Nat) (ws : List (List Nat)) (_news : List (Addr × Obj)) (r : Value) (led : List (Addr × Obj)) : Prop :=
  ∃ x t a b ta tb, x ∈ ws ∧ r = .str (S x) t ∧ led = [(src, srcObj a b ta tb n)]
inductive TextsAre : List Value → List (List Nat) → Prop
  | nil : TextsAre [] []
  | cons {x : List Nat} {y : PySem.Str} {t : Tok} {vs : List Value} {ws : List (List Nat)} : y = S x → TextsAre vs ws → TextsAre (.str y t :: vs) (x :: ws)
theorem TextsAre.get : ∀ {vs : List Value} {ws : List (List Nat)}, TextsAre vs ws → ∀ {d : Nat}, d < vs.length → ∃ x t, x ∈ ws ∧ vs.getD d .none = .str (S x) t
  | _, _, .nil, d, h => by simp at h
  | _, _, .cons (x := x) (t := t) e r, 0, h => ⟨x, t, .head _, by rw [e]; rfl⟩
  | _, _, .cons e r, d + 1, h => by
    obtain ⟨x, t, h1, h2⟩ := r.get (d := d) (by simpa using h)
    exact ⟨x, t, .tail _ h1, h2⟩
theorem swap_10 {h₀ h : Heap} {L : Addr} {a b : Addr × Obj} {rest : List (Addr × Obj)} (N : News h₀ L h (a :: b :: rest)) : News h₀ L h ([b] ++ (a :: rest)) := fun p hp => N p (by
  rcases List.mem_cons.mp hp with rfl | hp
  · exact .tail _ (.head _)
  rcases List.mem_cons.mp hp with rfl | hp
  · exact .head _
  exact .tail _ (.tail _ hp))
theorem sep_new {src l : Addr} {o o' : Obj} {news : List (Addr × Obj)} (h1 : src < l) (h2 : ∀ p ∈ news, p.1 ≠ src) : ∀ p ∈ [(src, o)], ∀ q ∈ (l, o') :: news, q.1 ≠ p.1 := fun p hp q hq => by
  rw [List.mem_singleton.mp hp]
  rcases List.mem_cons.mp hq with rfl | hq
  · exact Nat.ne_of_gt h1
  · exact h2 q hq
set_option maxHeartbeats 8000000 in
theorem law_gap_says {w : World} {src : Addr} {a b n : Nat} {ta tb : Tok} :
   Says w 6 72 246 [.ref src] [(src, srcObj a b ta tb n)] (TextOut src n gaps) := by
  intro loose mean mg mb dp un gd cn cs ac ccd cl outer A₀ base h₀ L m s Q E news B F X N T hkf hd hu hsep hret
  dsimp only [List.cons_append, List.nil_append] at N
  have n1 : ∀ p ∈ news, p.1 ≠ src := hsep (src, srcObj a b ta tb n) (.head _)
  refine wpAny_call ?_
  k_dflt cell_enter
  rename_i g L' h' FG F' N' B' X' T'
  refine toks_any ?_
  intro tk0
  k_steps
  refine Hold.go ?_
  (with_reducible rename Fr _ _ _ _ => F1); (with_reducible rename News _ _ _ _ => N1)
  rename (_ ∧ AllLt _ _) => l2
  refine wpAny_call (law_one_says ?hv ?hv2 B' F1 X' (swap_10 N1) (all1 (.head _)) T' rfl (by first | ktr_room | omega) (by first | ktr_units | omega) (sep_new l2.1 n1) ?_ (fun _ _ _ _ _ _ h => h.elim))
  case hv => show 1 ≤ 8; decide
  case hv2 => show 8 ≤ 1000; decide
  rintro r9 led9 h9 tk9 ⟨d, a2, b2, ta2, tb2, hd2, rfl, rfl⟩ F9 N9
  obtain ⟨gp, tg, hg, e9⟩ := TextsAre.get (ws := gaps) (by first | exact .cons (by decide +kernel) (.cons (by decide +kernel) (.cons (by decide +kernel) (.cons (by decide +kernel) (.cons (by decide +kernel) (.cons (by decide +kernel) (.cons (by decide +kernel) (.cons (by decide +kernel) .nil)))))))) hd2
  rw [e9]
  dsimp only [List.cons_append, List.nil_append] at N9 ⊢
  clear N1
  k_steps
  rename News h₀ _ _ _ => N4
  rename Fr h₀ _ _ _ => F4
  exact hret _ _ _ _ ⟨gp, tg, a2, b2, ta2, tb2, hg, rfl, rfl⟩ F4 (drop_2nd N4)
end
section
local macro_rules | `(tactic| walk_at "FPost") => `(tactic| dsimp only [FPost])
local macro_rules | `(tactic| walk_at $k:str) => if ["binaryOp Pow int int", "binaryOp FloorDiv int int", "binaryOp Add str str", "exec For Name Call cons nil", "exec For Name Name cons nil", "pyIter ref", "subscriptTail Constant BinOp str int", "subscriptTail Name BinOp str int"].contains k.getString then `(tactic| refine Hold.out ?_) else Lean.Macro.throwUnsupported
def hexDigit (d : Nat) : Nat := (codes "0123456789abcdef").getD d 0
/-- figures of a number in a base: so many, low lines between -/
structure FigsOf (bs number many : Nat) (figs : List Nat) : Prop where
  val : valOf bs figs = number
  count : manyOf figs = many
  all : ∀ c ∈ figs, isFig bs c = true
  len : figs.length ≤ 2 * many
theorem small_0 : ∀ many : Nat, many ≤ 41 → Builtin.Range.small 0 (many : Int) 1 = true := by decide +kernel
theorem lit_hex : Str.ofString "0123456789abcdef" = S (codes "0123456789abcdef") := by decide +kernel
theorem lit_usS : Str.ofString "_" = S [95] := by decide +kernel
theorem hex_worth : ∀ d, d < 16 → figureWorth (hexDigit d) = d := by decide +kernel
theorem hex_ne {d : Nat} (h : d < 16) : hexDigit d ≠ 95 := by
  revert d; decide +kernel
theorem isFig_hex {d bs : Nat} (h : d < bs) (hb : bs ≤ 16) : isFig bs (hexDigit d) = true := by
  unfold isFig
  rw [hex_worth d (by walk_at "om"), decide_eq_true h, Bool.or_true]
theorem figs_step {bs v v' i d : Nat} {figs : List Nat} (h : FigsOf bs v i figs) (hd : d < bs) (hb : bs ≤ 16) (hv : v' = v * bs + d) : FigsOf bs v' (i + 1) (figs ++ [hexDigit d]) := by
  refine ⟨?_, ?_, fun c hc => ?_, ?_⟩
  · rw [valOf_snoc, if_neg (hex_ne (by walk_at "om")), h.val, hex_worth d (by walk_at "om"), hv]
  · rw [manyOf_snoc, if_neg (hex_ne (by walk_at "om")), h.count]
  · rcases List.mem_append.mp hc with hc | hc
    · exact h.all c hc
    · rw [List.mem_singleton.mp hc]; exact isFig_hex hd hb
  · have := h.len; rw [List.length_append]; show figs.length + 1 ≤ _; omega
theorem figs_low {bs v i : Nat} {figs : List Nat} (h : FigsOf bs v (i + 1) figs) (hl : figs.length + 1 ≤ 2 * (i + 1)) : FigsOf bs v (i + 1) (figs ++ [95]) := by
  refine ⟨?_, ?_, fun c hc => ?_, ?_⟩
  · rw [valOf_snoc, if_pos rfl, h.val]
  · rw [manyOf_snoc, if_pos rfl, h.count]
  · rcases List.mem_append.mp hc with hc | hc
    · exact h.all c hc
    · rw [List.mem_singleton.mp hc]; rfl
  · rw [List.length_append]; exact hl
theorem head_step {bs number many i dg : Nat} {figs more : List Nat} (h : FigsOf bs (number / bs ^ (many - i)) i figs) (h2 : 0 < i → figs.head? = some (hexDigit (number / bs ^ (many - 1)))) (hd : number / bs ^ (many - 1 - i) % bs = dg) (hn : number < bs ^ many) (hi : i < many) :
    (figs ++ ([hexDigit dg] ++ more)).head? = some (hexDigit (number / bs ^ (many - 1))) := by
  rcases Nat.eq_zero_or_pos i with h0 | h0
  · subst h0
    have : figs = [] := List.eq_nil_of_length_eq_zero (by have := h.len; omega)
    subst this
    have hlt : number / bs ^ (many - 1) < bs := by
      rw [Nat.div_lt_iff_lt_mul (Nat.pos_of_ne_zero fun z => by rw [show many = (many - 1) + 1 by omega, Nat.pow_succ, z, Nat.zero_mul] at hn; omega)]
      rw [Nat.mul_comm, ← Nat.pow_succ, show (many - 1).succ = many by omega]; exact hn
    rw [Nat.sub_zero, Nat.mod_eq_of_lt hlt] at hd
    rw [← hd]; rfl
  · have := h2 h0
    cases figs with
    | nil => cases this
    | cons c r => exact this
def FigOut (src : Addr) (n bs number many : Nat) (_news : List (Addr × Obj)) (r : Value) (led : List (Addr × Obj)) : Prop :=
  ∃ figs t a b ta tb, FigsOf bs number many figs ∧ figs.head? = some (hexDigit (number / bs ^ (many - 1))) ∧ r = .str (S figs) t ∧ led = [(src, srcObj a b ta tb n)]
set_option maxHeartbeats 8000000 in
theorem law_figures_says {w : World} {src : Addr} {a b n number bs many : Nat} {ta tb t1 t2 t3 : Tok} (hb1 : 2 ≤ bs) (hb2 : bs ≤ 16) (hm1 : 1 ≤ many) (hm2 : many ≤ 41) (hn : number < bs ^ many) :
   Says w 6 72 232 [.ref src, .int number t1, .int bs t2, .int many t3] [(src, srcObj a b ta tb n)] (FigOut src n bs number many) := by
  intro loose mean mg mb dp un gd cn cs ac ccd cl outer A₀ base h₀ L m s Q E news B F X N T hkf hd hu hsep hret
  dsimp only [List.cons_append, List.nil_append] at N
  have n1 : ∀ p ∈ news, p.1 ≠ src := hsep (src, srcObj a b ta tb n) (.head _)
  refine wpAny_call ?_
  k_dflt cell_enter
  rename_i g L' h' FG F' N' B' X' T'
  refine toks_any ?_
  intro tk0
  replace F' : Fr g L' h' (fun y => List.lookup y [(Str.ofString "many", .int many t3), (Str.ofString "base", .int bs t2), (Str.ofString "number", .int number t1), (Str.ofString "source", .ref src)]) := F'
  k_steps
  refine Hold.go ?_
  (with_reducible rename Fr _ _ _ _ => F1); (with_reducible rename News _ _ _ _ => N1)
  refine For_invVF F1 rfl rfl ?_
  k_steps
  refine Hold.go ?_
  (with_reducible rename Fr _ _ _ _ => F1); (with_reducible rename News _ _ _ _ => N1)
  rename IsRange _ _ _ _ _ _ _ _ => hr
  refine fr_range (σ := (List Nat × Nat × Nat) × Tok × Tok × Tok) (fun _ c => (src, srcObj c.1.2.1 c.1.2.2 c.2.1 c.2.2.1 n) :: news) (fun _ c => [(Str.ofString "found", .str (S c.1.1) c.2.2.2), (Str.ofString "many", .int many t3), (Str.ofString "base", .int bs t2), (Str.ofString "number", .int number t1), (Str.ofString "source", .ref src)])
    (fun i c => FigsOf bs (number / bs ^ (many - i)) i c.1.1 ∧ (0 < i → c.1.1.head? = some (hexDigit (number / bs ^ (many - 1))))) (([], a, b), ta, tb, _) rfl hr ?small F1 N1 sub_self (allc rfl (allc rfl (allc rfl (allc rfl (all1 rfl))))) ?start ?hsub ?hx ?turn ?done
  case small => exact small_0 many hm2
  case start => exact ⟨⟨(Nat.div_eq_of_lt hn).symm, rfl, (fun _ h => nomatch h), Nat.zero_le _⟩, fun h => absurd h (Nat.lt_irrefl _)⟩
  case hsub =>
    intro i c _ p hp
    rcases List.mem_cons.mp hp with rfl | hp
    · exact ⟨_, .head _, rfl⟩
    · exact ⟨p, .tail _ hp, rfl⟩
  case hx => exact fun _ _ => allc (show Str.ofString "found" ≠ Str.ofString "turn" by decide +kernel) (allc (show Str.ofString "many" ≠ Str.ofString "turn" by decide +kernel) (allc (show Str.ofString "base" ≠ Str.ofString "turn" by decide +kernel) (allc (show Str.ofString "number" ≠ Str.ofString "turn" by decide +kernel) (all1 (show Str.ofString "source" ≠ Str.ofString "turn" by decide +kernel)))))
  case turn =>
    rintro i t ⟨⟨figs, a', b'⟩, ta', tb', tf⟩ own u h₁ tk₁ hi ⟨hp, hp2⟩ F₁ N₁ hs
    clear F1 N1
    dsimp only at hp hp2 F₁ N₁ hs ⊢
    (try k_fold)
    have hfl : figs.length ≤ 82 := by have := hp.len; omega
    k_steps
    refine Hold.go ?_
    have hbits : (Builtin.Int.intBits (bs : Int) : Int) * ((many : Int) - 1 - (i : Int)) ≤ 2 ^ 27 := by
      have h1 : Builtin.Int.intBits (bs : Int) ≤ 64 := intBits_le_64 (by walk_at "om") (by walk_at "om")
      have h2 := Int.mul_le_mul (show (Builtin.Int.intBits (bs : Int) : Int) ≤ 64 by omega) (show (many : Int) - 1 - (i : Int) ≤ 41 by omega) (by walk_at "om") (by walk_at "om")
      omega
    refine pow_int (by walk_at "om") hbits ?_
    rw [show ((bs : Int) ^ ((many : Int) - 1 - (i : Int)).toNat) = ((bs ^ (many - 1 - i) : Nat) : Int) by
      rw [show ((many : Int) - 1 - (i : Int)).toNat = many - 1 - i by omega]; simp]
    k_steps
    refine Hold.go ?_
    have hP : 0 < bs ^ (many - 1 - i) := Nat.pow_pos (by walk_at "om")
    have hP2 : bs ^ (many - 1 - i) < 2 ^ 9000 := Nat.lt_of_le_of_lt (Nat.pow_le_pow_left hb2 _) (Nat.lt_of_le_of_lt (Nat.pow_le_pow_right (by decide) (show many - 1 - i ≤ 41 by omega)) (by decide +kernel))
    refine floordiv_int (by walk_at "om") ?_ (Or.inl (PyProof.noPylong_of_log2 (by rw [Int.natAbs_natCast]; exact (Nat.log2_lt (by walk_at "om")).mpr hP2)))
    rw [fdiv_nat]
    k_steps
    refine Hold.go ?_
    rw [fmod_nat, lit_hex]
    have hdg : number / bs ^ (many - 1 - i) % bs < bs := Nat.mod_lt _ (by walk_at "om")
    generalize hdgE : number / bs ^ (many - 1 - i) % bs = dg at *
    refine r_item (n := dg) (x := codes "0123456789abcdef") (tn0 _) (by walk_at "om") (by show (dg : Int) < 16; omega) (by decide) ?_
    intro tx kx
    k_steps
    refine Hold.go ?_
    refine r_add (x := figs) (y := [hexDigit dg]) (by show figs.length + 1 ≤ 1000000; omega) ?_
    intro ty ky
    k_steps
    refine Hold.go ?_
    (with_reducible rename Fr _ _ _ _ => F2); (with_reducible rename News _ _ _ _ => N2)
    refine law_take_says (top := 6) (by decide) (by decide) B' F2 X' (news := news ++ own) N2 T' rfl (by first | ktr_room | omega) (by first | ktr_units | omega) (all1 fun q hq => (List.mem_append.mp hq).elim (n1 q) (hs _ (.head _) q)) ?_
    rintro r9 led9 h9 tk9 ⟨d, td, a2, b2, ta2, tb2, hd2, rfl, rfl⟩ F9 N9
    dsimp only [List.cons_append, List.nil_append] at N9 ⊢
    clear N2
    have hfig : isFig bs (hexDigit dg) = true := isFig_hex hdg hb2
    have hne : hexDigit dg ≠ 95 := hex_ne (Nat.lt_of_lt_of_le hdg hb2)
    have hstep : FigsOf bs (number / bs ^ (many - (i + 1))) (i + 1) (figs ++ [hexDigit dg]) := by
      refine figs_step hp hdg hb2 ?_
      rw [← hdgE, show many - (i + 1) = many - 1 - i by omega, show many - i = (many - 1 - i) + 1 by omega, Nat.pow_succ, ← Nat.div_div_eq_div_mul]
      exact (Nat.div_add_mod' _ _).symm
    k_steps
    · refine Hold.go ?_
      rw [lit_usS]
      refine r_add (x := figs ++ [hexDigit dg]) (y := [95]) (by rw [List.length_append]; show figs.length + 1 + _ ≤ 1000000; simp; omega) ?_
      intro tz kz
      k_steps
      rename Fr _ _ _ _ => F2
      rename News _ _ _ _ => N2
      refine FEnd.intro ((figs ++ [hexDigit dg] ++ [95], a2, b2), ta2, tb2, tz) F2 N2 sub_self (allc rfl (allc rfl (allc rfl (allc rfl (all1 rfl))))) ⟨?_, fun _ => ?_⟩
      · exact figs_low hstep (by have := hp.len; rw [List.length_append]; show figs.length + 1 + 1 ≤ _; omega)
      · show (figs ++ [hexDigit dg] ++ [95]).head? = _
        rw [List.append_assoc]
        exact head_step hp hp2 hdgE hn hi
    · refine Hold.go ?_
      rw [lit_empty]
      refine r_add (x := figs ++ [hexDigit dg]) (y := []) (by rw [List.length_append]; show figs.length + 1 + _ ≤ 1000000; simp; omega) ?_
      intro tz kz
      k_steps
      rename Fr _ _ _ _ => F2
      rename News _ _ _ _ => N2
      refine FEnd.intro ((figs ++ [hexDigit dg] ++ [], a2, b2), ta2, tb2, tz) F2 N2 sub_self (allc rfl (allc rfl (allc rfl (allc rfl (all1 rfl))))) ⟨?_, fun _ => ?_⟩
      · rw [List.append_nil]; exact hstep
      · show (figs ++ [hexDigit dg] ++ []).head? = _
        rw [List.append_assoc]
        exact head_step hp hp2 hdgE hn hi
  case done =>
    rintro ⟨⟨figs, a', b'⟩, ta', tb', tf⟩ u h₁ tk₁ ⟨hp, hp2⟩ F₁ N₁
    clear F1 N1
    dsimp only at hp hp2 F₁ N₁ ⊢
    (try k_fold)
    k_steps
    rename News h₀ _ _ _ => N4
    rename Fr h₀ _ _ _ => F4
    rw [Nat.sub_self, Nat.pow_zero, Nat.div_one] at hp
    exact hret _ _ _ _ ⟨figs, tf, a', b', ta', tb', hp, hp2 (by walk_at "om"), rfl, rfl⟩ F4 N4
end
section
local macro_rules | `(tactic| walk_at $k:str) => if ["binaryOp Mult int int", "binaryOp Pow int int", "binaryOp Add str str", "binaryOp Add int int"].contains k.getString then `(tactic| refine Hold.out ?_) else Lean.Macro.throwUnsupported
abbrev bases : List (List Nat × Nat) := [([], 10), ([48, 120], 16), ([48, 111], 8), ([48, 98], 2)]
theorem lit_0xS : Str.ofString "0x" = S [48, 120] := by decide +kernel
theorem lit_0oS : Str.ofString "0o" = S [48, 111] := by decide +kernel
theorem lit_0bS : Str.ofString "0b" = S [48, 98] := by decide +kernel
theorem pull_6 {h₀ h : Heap} {L : Addr} {a b c d e q : Addr × Obj} {rest : List (Addr × Obj)} (N : News h₀ L h (a :: b :: c :: d :: e :: q :: rest)) : News h₀ L h ([q] ++ (a :: b :: c :: d :: e :: rest)) := fun p hp => N p (by
  simp only [List.mem_cons, List.mem_append, List.not_mem_nil, or_false] at hp ⊢
  rcases hp with h | h | h | h | h | h | h <;> simp [h])
theorem base_pick {h₀ h : Heap} {L l t0 t1 t2 t3 : Addr} {o : Obj} {q : Addr × Obj} {u0 u1 u2 u3 v0 v1 v2 v3 : Tok} {d : Nat} {rest : List (Addr × Obj)}
    (N : News h₀ L h (q :: (l, o) :: (t3, tupObj [.str (Str.ofString "0b") u3, .int 2 v3]) :: (t2, tupObj [.str (Str.ofString "0o") u2, .int 8 v2]) :: (t1, tupObj [.str (Str.ofString "0x") u1, .int 16 v1]) :: (t0, tupObj [.str (Str.ofString "") u0, .int 10 v0]) :: rest)) (hd : d < 4) :
    ∃ t ah bs ta tb, [Value.ref t0, .ref t1, .ref t2, .ref t3].getD d .none = .ref t ∧ (ah, bs) ∈ bases ∧ News h₀ L h ((t, tupObj [.str (S ah) ta, .int (bs : Nat) tb]) :: q :: rest) := by
  have key : ∀ (x : Addr × Obj), x ∈ (q :: (l, o) :: (t3, tupObj [.str (Str.ofString "0b") u3, .int 2 v3]) :: (t2, tupObj [.str (Str.ofString "0o") u2, .int 8 v2]) :: (t1, tupObj [.str (Str.ofString "0x") u1, .int 16 v1]) :: (t0, tupObj [.str (Str.ofString "") u0, .int 10 v0]) :: rest) → News h₀ L h (x :: q :: rest) := fun x hx p hp => by
    rcases List.mem_cons.mp hp with rfl | hp
    · exact N _ hx
    rcases List.mem_cons.mp hp with rfl | hp
    · exact N _ (.head _)
    exact N p (.tail _ (.tail _ (.tail _ (.tail _ (.tail _ (.tail _ hp))))))
  match d, hd with
  | 0, _ => exact ⟨t0, [], 10, u0, v0, rfl, .head _, key _ (by rw [← lit_empty]; exact .tail _ (.tail _ (.tail _ (.tail _ (.tail _ (.head _))))))⟩
  | 1, _ => exact ⟨t1, [48, 120], 16, u1, v1, rfl, .tail _ (.head _), key _ (by rw [← lit_0xS]; exact .tail _ (.tail _ (.tail _ (.tail _ (.head _)))))⟩
  | 2, _ => exact ⟨t2, [48, 111], 8, u2, v2, rfl, .tail _ (.tail _ (.head _)), key _ (by rw [← lit_0oS]; exact .tail _ (.tail _ (.tail _ (.head _))))⟩
  | 3, _ => exact ⟨t3, [48, 98], 2, u3, v3, rfl, .tail _ (.tail _ (.tail _ (.head _))), key _ (by rw [← lit_0bS]; exact .tail _ (.tail _ (.head _)))⟩
theorem sep_5 {src l t0 t1 t2 t3 : Addr} {o o' o0 o1 o2 o3 : Obj} {news : List (Addr × Obj)} (h0 : src < t0) (h1 : src < t1) (h2 : src < t2) (h3 : src < t3) (h4 : src < l) (hn : ∀ p ∈ news, p.1 ≠ src) :
    ∀ p ∈ [(src, o)], ∀ q ∈ (l, o') :: (t3, o3) :: (t2, o2) :: (t1, o1) :: (t0, o0) :: news, q.1 ≠ p.1 := fun p hp q hq => by
  rw [List.mem_singleton.mp hp]
  simp only [List.mem_cons] at hq
  rcases hq with rfl | rfl | rfl | rfl | rfl | hq
  · exact Nat.ne_of_gt h4
  · exact Nat.ne_of_gt h3
  · exact Nat.ne_of_gt h2
  · exact Nat.ne_of_gt h1
  · exact Nat.ne_of_gt h0
  · exact hn q hq
theorem pull_3 {h₀ h : Heap} {L : Addr} {a b q : Addr × Obj} {rest : List (Addr × Obj)} (N : News h₀ L h (a :: b :: q :: rest)) : News h₀ L h ([q] ++ (a :: rest)) := fun p hp => N p (by
  simp only [List.mem_cons, List.mem_append, List.not_mem_nil, or_false] at hp ⊢
  rcases hp with h | h | h <;> simp [h])
theorem many_pick {u0 u1 u2 u3 u4 u5 u6 u7 : Tok} {d : Nat} (hd : d < 8) :
    ∃ many t, [Value.int 1 u0, .int 2 u1, .int 3 u2, .int 38 u3, .int 39 u4, .int 40 u5, .int 40 u6, .int 41 u7].getD d .none = .int (many : Nat) t ∧ 1 ≤ many ∧ many ≤ 41 :=
  match d, hd with
  | 0, _ => ⟨1, u0, rfl, by decide, by decide⟩
  | 1, _ => ⟨2, u1, rfl, by decide, by decide⟩
  | 2, _ => ⟨3, u2, rfl, by decide, by decide⟩
  | 3, _ => ⟨38, u3, rfl, by decide, by decide⟩
  | 4, _ => ⟨39, u4, rfl, by decide, by decide⟩
  | 5, _ => ⟨40, u5, rfl, by decide, by decide⟩
  | 6, _ => ⟨40, u6, rfl, by decide, by decide⟩
  | 7, _ => ⟨41, u7, rfl, by decide, by decide⟩
theorem pow_room {x e : Int} (h : Builtin.Int.intBits x ≤ 64) (h0 : 0 ≤ e) (h1 : e ≤ 41) : (Builtin.Int.intBits x : Int) * e ≤ 2 ^ 27 := by
  have h2 := Int.mul_le_mul (show (Builtin.Int.intBits x : Int) ≤ 64 by omega) h1 h0 (by walk_at "om")
  omega
theorem pow_nat {b e : Nat} {x : Int} (h : x.toNat = e) : ((b : Int) ^ x.toNat) = ((b ^ e : Nat) : Int) := by rw [h]; simp
theorem pw4 {many : Nat} (h1 : 1 ≤ many) : 0 ≤ (if (4 : Int) < (many : Int) - 1 then (4 : Int) else (many : Int) - 1) ∧ (if (4 : Int) < (many : Int) - 1 then (4 : Int) else (many : Int) - 1) ≤ 41 ∧ (if (4 : Int) < (many : Int) - 1 then (4 : Int) else (many : Int) - 1).toNat = min (many - 1) 4 := by
  have e : (many : Int) - 1 = ((many - 1 : Nat) : Int) := (Int.ofNat_sub h1).symm
  rw [e]
  split
  · rename_i h
    rw [Nat.min_eq_right (Nat.le_of_lt (Int.ofNat_lt.mp h))]
    exact ⟨by decide, by decide, rfl⟩
  · rename_i h
    have h' : many - 1 ≤ 4 := Int.ofNat_le.mp (Int.not_lt.mp h)
    rw [Nat.min_eq_left h']
    exact ⟨Int.natCast_nonneg _, Int.le_trans (Int.ofNat_le.mpr h') (by decide), rfl⟩
theorem pw1 {many : Nat} (h1 : 1 ≤ many) (h2 : many ≤ 41) : 0 ≤ (many : Int) - 1 ∧ (many : Int) - 1 ≤ 41 ∧ ((many : Int) - 1).toNat = many - 1 := by
  have e : (many : Int) - 1 = ((many - 1 : Nat) : Int) := (Int.ofNat_sub h1).symm
  rw [e]
  exact ⟨Int.natCast_nonneg _, Int.ofNat_le.mpr (Nat.le_trans (Nat.sub_le _ _) h2), rfl⟩
theorem num_lt {bs many d1 d2 : Nat} (h1 : d1 < bs - 1) (h2 : d2 < bs ^ min (many - 1) 4) (hm : 1 ≤ many) : (1 + d1) * bs ^ (many - 1) + d2 < bs ^ many := by
  have h3 : bs ^ min (many - 1) 4 ≤ bs ^ (many - 1) := Nat.pow_le_pow_right (by walk_at "om") (Nat.min_le_left _ _)
  have h4 : (1 + d1 + 1) * bs ^ (many - 1) ≤ bs * bs ^ (many - 1) := Nat.mul_le_mul_right _ (by walk_at "om")
  rw [Nat.add_mul, Nat.one_mul, Nat.mul_comm bs, ← Nat.pow_succ, show (many - 1).succ = many by omega] at h4
  omega
theorem num_lead {bs many d1 d2 : Nat} (h2 : d2 < bs ^ min (many - 1) 4) (hb : 1 ≤ bs) : ((1 + d1) * bs ^ (many - 1) + d2) / bs ^ (many - 1) = 1 + d1 := by
  have h3 : bs ^ min (many - 1) 4 ≤ bs ^ (many - 1) := Nat.pow_le_pow_right hb (Nat.min_le_left _ _)
  rw [Nat.add_comm, Nat.add_mul_div_right _ _ (by walk_at "om"), Nat.div_eq_of_lt (by walk_at "om"), Nat.zero_add]
theorem bases_len : ∀ p ∈ bases, p.1.length ≤ 2 := by decide
theorem kinds_len : ∀ p ∈ [] :: [] :: intKinds, p.length ≤ 5 := by decide
theorem bases_ok : ∀ p ∈ bases, 2 ≤ p.2 ∧ p.2 ≤ 16 := by decide
/-- a number's text: sign of the base, figures, kind -/
structure NumIs (ah figs kd : List Nat) (bs number many lead : Nat) : Prop where
  base : (ah, bs) ∈ bases
  figs_ : FigsOf bs number many figs
  head : figs.head? = some (hexDigit lead)
  lead1 : 1 ≤ lead
  lead2 : lead < bs
  kind : kd ∈ [] :: [] :: intKinds
  m1 : 1 ≤ many
  m2 : many ≤ 41
theorem swap_21 {h₀ h : Heap} {L : Addr} {a b : Addr × Obj} {rest : List (Addr × Obj)} (N : News h₀ L h (a :: b :: rest)) : News h₀ L h ([b, a] ++ rest) := fun p hp => N p (by
  simp only [List.mem_cons, List.mem_append, List.not_mem_nil, or_false] at hp ⊢
  rcases hp with (h | h) | h <;> simp [h])
def NumOut (src : Addr) (n : Nat) (news : List (Addr × Obj)) (r : Value) (led : List (Addr × Obj)) : Prop :=
  ∃ tr ah figs kd bs number many lead t1 t2 t3 t4 a b ta tb, NumIs ah figs kd bs number many lead ∧ r = .ref tr ∧ (∀ q ∈ news, q.1 < tr) ∧ src < tr ∧
    led = [(src, srcObj a b ta tb n), (tr, tupObj [.str (S (ah ++ figs ++ kd)) t1, .int (number : Nat) t2, optStr (if kd = [] then none else some kd) t3, .int (many : Nat) t4])]
theorem num_end {h₀ h : Heap} {L src tr : Addr} {n a b bs number many lead : Nat} {ta tb t1 t2 t3 t4 : Tok} {ah figs kd : List Nat} {kv : Value} {news : List (Addr × Obj)}
    (N : News h₀ L h ((tr, tupObj [.str (S (ah ++ figs ++ kd)) t1, .int (number : Nat) t2, kv, .int (many : Nat) t4]) :: (src, srcObj a b ta tb n) :: news)) (hk : kv = optStr (if kd = [] then none else some kd) t3)
    (hn : NumIs ah figs kd bs number many lead) (hl : ∀ q ∈ news, q.1 < tr) (hs : src < tr) : ∃ led, NumOut src n news (.ref tr) led ∧ News h₀ L h (led ++ news) := by
  subst hk
  exact ⟨_, ⟨tr, ah, figs, kd, bs, number, many, lead, t1, t2, t3, t4, a, b, ta, tb, hn, rfl, hl, hs, rfl⟩, swap_21 N⟩
set_option maxHeartbeats 8000000 in
theorem law_number_says {w : World} {src : Addr} {a b n : Nat} {ta tb : Tok} :
   Says w 8 120 239 [.ref src] [(src, srcObj a b ta tb n)] (NumOut src n) := by
  intro loose mean mg mb dp un gd cn cs ac ccd cl outer A₀ base h₀ L m s Q E news B F X N T hkf hd hu hsep hret
  dsimp only [List.cons_append, List.nil_append] at N
  have n1 : ∀ p ∈ news, p.1 ≠ src := hsep (src, srcObj a b ta tb n) (.head _)
  refine wpAny_call ?_
  k_dflt cell_enter
  rename_i g L' h' FG F' N' B' X' T'
  refine toks_any ?_
  intro tk0
  k_steps
  refine Hold.go ?_
  (with_reducible rename Fr _ _ _ _ => F1); (with_reducible rename News _ _ _ _ => N1)
  refine wpAny_call (law_one_says ?hv ?hv2 B' F1 X' (pull_6 N1) (all1 (.head _)) T' rfl (by first | ktr_room | omega) (by first | ktr_units | omega) (sep_5 (ltN (by walk_at "ad")) (ltN (by walk_at "ad")) (ltN (by walk_at "ad")) (ltN (by walk_at "ad")) (ltN (by walk_at "ad")) n1) ?_ (fun _ _ _ _ _ _ h => h.elim))
  case hv => show 1 ≤ 4; decide
  case hv2 => show 4 ≤ 1000; decide
  rintro r9 led9 h9 tk9 ⟨d, a2, b2, ta2, tb2, hd2, rfl, rfl⟩ F9 N9
  obtain ⟨t, ah, bs, tah, tbs, e9, hbs, N8⟩ := base_pick N9 hd2
  rw [e9]
  have hb16 := bases_ok _ hbs
  dsimp only at hb16 ⊢
  clear N1 N9
  k_steps
  refine Hold.go ?_
  (with_reducible rename Fr _ _ _ _ => F1); (with_reducible rename News _ _ _ _ => N1)
  refine wpAny_call (law_one_says ?hv ?hv2 B' F1 X' (pull_3 N1) (all1 (.head _)) T' rfl (by first | ktr_room | omega) (by first | ktr_units | omega) (sep_new (ltN (by walk_at "ad")) n1) ?_ (fun _ _ _ _ _ _ h => h.elim))
  case hv => show 1 ≤ 8; decide
  case hv2 => show 8 ≤ 1000; decide
  rintro r9 led9 h9 tk9 ⟨d, a3, b3, ta3, tb3, hd3, rfl, rfl⟩ F9 N9
  obtain ⟨many, tm, e9, hm1, hm2⟩ := many_pick hd3
  rw [e9]
  replace N9 := drop_2nd N9
  dsimp only
  clear N1
  k_steps
  refine Hold.go ?_
  (with_reducible rename Fr _ _ _ _ => F1); (with_reducible rename News _ _ _ _ => N1)
  rw [show (bs : Int) - 1 = ((bs - 1 : Nat) : Int) from (Int.ofNat_sub (Nat.le_of_lt hb16.1)).symm]
  refine law_take_says (top := bs - 1) (by walk_at "om") (by walk_at "om") B' F1 X' N1 T' rfl (by first | ktr_room | omega) (by first | ktr_units | omega) (all1 n1) ?_
  rintro r9 led9 h9 tk9 ⟨d1, td1, a4, b4, ta4, tb4, hd4, rfl, rfl⟩ F9 N9
  dsimp only [List.cons_append, List.nil_append] at N9 ⊢
  clear N1
  k_steps
  refine Hold.go ?_
  refine PyProof.Rows.add_int ?_
  rw [show (1 : Int) + (d1 : Int) = ((1 + d1 : Nat) : Int) from (Int.natCast_add 1 d1).symm]
  k_steps
  refine Hold.go ?_
  have hbits : Builtin.Int.intBits (bs : Int) ≤ 64 := intBits_le_64 (by walk_at "om") (by walk_at "om")
  refine pow_int (pw1 hm1 hm2).1 (pow_room hbits (pw1 hm1 hm2).1 (pw1 hm1 hm2).2.1) ?_
  rw [pow_nat (pw1 hm1 hm2).2.2]
  k_steps
  refine Hold.go ?_
  refine mul_int ?_ (IntMulOk.of_left (intBits_le_64 (by walk_at "om") (by walk_at "om")))
  rw [show ((1 + d1 : Nat) : Int) * ((bs ^ (many - 1) : Nat) : Int) = (((1 + d1) * bs ^ (many - 1) : Nat) : Int) by simp]
  k_steps
  refine Hold.go ?_
  refine pow_int (pw4 hm1).1 (pow_room hbits (pw4 hm1).1 (pw4 hm1).2.1) ?_
  rw [pow_nat (pw4 hm1).2.2]
  k_steps
  refine Hold.go ?_
  (with_reducible rename Fr _ _ _ _ => F1); (with_reducible rename News _ _ _ _ => N1)
  have hp4 : bs ^ min (many - 1) 4 ≤ 1000000 := Nat.le_trans (Nat.pow_le_pow_left hb16.2 _) (Nat.le_trans (Nat.pow_le_pow_right (by decide) (Nat.min_le_right _ _)) (by decide))
  refine law_take_says (top := bs ^ min (many - 1) 4) (Nat.pow_pos (by walk_at "om")) hp4 B' F1 X' N1 T' rfl (by first | ktr_room | omega) (by first | ktr_units | omega) (all1 n1) ?_
  rintro r9 led9 h9 tk9 ⟨d2, td2, a5, b5, ta5, tb5, hd5, rfl, rfl⟩ F9 N9
  dsimp only [List.cons_append, List.nil_append] at N9 ⊢
  clear N1
  k_steps
  refine Hold.go ?_
  refine PyProof.Rows.add_int ?_
  rw [show (((1 + d1) * bs ^ (many - 1) : Nat) : Int) + (d2 : Int) = (((1 + d1) * bs ^ (many - 1) + d2 : Nat) : Int) by simp]
  have hnum : (1 + d1) * bs ^ (many - 1) + d2 < bs ^ many := num_lt hd4 hd5 hm1
  have hlead : ((1 + d1) * bs ^ (many - 1) + d2) / bs ^ (many - 1) = 1 + d1 := num_lead hd5 (by walk_at "om")
  generalize (1 + d1) * bs ^ (many - 1) + d2 = number at *
  k_steps
  refine Hold.go ?_
  (with_reducible rename Fr _ _ _ _ => F1); (with_reducible rename News _ _ _ _ => N1)
  refine wpAny_call (law_one_says ?hv ?hv2 B' F1 X' (swap_10 N1) (all1 (.head _)) T' rfl (by first | ktr_room | omega) (by first | ktr_units | omega) (sep_new (ltN (by walk_at "ad")) n1) ?_ (fun _ _ _ _ _ _ h => h.elim))
  case hv => show 1 ≤ 11; decide
  case hv2 => show 11 ≤ 1000; decide
  rintro r9 led9 h9 tk9 ⟨d, a6, b6, ta6, tb6, hd6, rfl, rfl⟩ F9 N9
  obtain ⟨kd, tkd, hkd, e9⟩ := TextsAre.get (ws := [] :: [] :: intKinds) (.cons (by decide +kernel) (.cons (by decide +kernel) (.cons (by decide +kernel) (.cons (by decide +kernel) (.cons (by decide +kernel) (.cons (by decide +kernel) (.cons (by decide +kernel) (.cons (by decide +kernel) (.cons (by decide +kernel) (.cons (by decide +kernel) (.cons (by decide +kernel) .nil))))))))))) hd6
  rw [e9]
  replace N9 := drop_2nd N9
  dsimp only
  clear N1
  k_steps
  refine Hold.go ?_
  (with_reducible rename Fr _ _ _ _ => F1); (with_reducible rename News _ _ _ _ => N1)
  refine law_figures_says hb16.1 hb16.2 hm1 hm2 hnum B' F1 X' N1 T' rfl (by first | ktr_room | omega) (by first | ktr_units | omega) (all1 n1) ?_
  rintro r9 led9 h9 tk9 ⟨figs, tf, a7, b7, ta7, tb7, hfigs, hhead, rfl, rfl⟩ F9 N9
  rw [hlead] at hhead
  dsimp only [List.cons_append, List.nil_append] at N9 ⊢
  clear N1
  have hfl := hfigs.len
  have hal := bases_len _ hbs
  have hkl := kinds_len _ hkd
  dsimp only at hal
  k_steps
  refine Hold.go ?_
  refine r_add (x := ah) (y := figs) (by walk_at "om") ?_
  intro ty ky
  k_steps
  refine Hold.go ?_
  refine r_add (x := ah ++ figs) (y := kd) (by rw [List.length_append]; omega) ?_
  intro tz kz
  k_steps
  · have e1 : kd = (Str.ofString "").1.toList := by assumption
    rw [lit_nil] at e1
    rename News h₀ _ _ _ => N2
    rename Fr h₀ _ _ _ => F2
    rename (_ < _ ∧ AllLt _ _) => l2
    obtain ⟨led, hO, hN⟩ := num_end (t3 := 0) N2 (by rw [if_pos e1]; rfl) ⟨hbs, hfigs, hhead, by omega, by omega, hkd, hm1, hm2⟩ (ktn_ltOf l2.2) l2.1
    exact hret _ _ _ _ hO F2 hN
  · have e1 : ¬ kd = (Str.ofString "").1.toList := by assumption
    rw [lit_nil] at e1
    rename News h₀ _ _ _ => N2
    rename Fr h₀ _ _ _ => F2
    rename (_ < _ ∧ AllLt _ _) => l2
    obtain ⟨led, hO, hN⟩ := num_end N2 (by rw [if_neg e1]; rfl) ⟨hbs, hfigs, hhead, by omega, by omega, hkd, hm1, hm2⟩ (ktn_ltOf l2.2) l2.1
    exact hret _ _ _ _ hO F2 hN
end
section
section
variable {prog : Program} {w : World} {A₀ : Around} {E : Value → Shared → Prop} {s' : Shared} {base g g₀ G : Heap} {outer : List Env} {L a e C : Addr} {spot : Nat} {m : Str → Option Value} {name : Str} {scope : Scope} {cd : Value}
  {n : Str} {b₀ : Stmt} {suite body : List Stmt} {pos : Pos} {rest hs : List ExceptHandler} {Q : Flow → Shared → Prop} {news : List (Addr × Obj)} {KF : Frag} {nm : Option Str}
  {p : Program} {loose : List Str} {mean : ExcName → Option Value} {mg mb : Str → Option Value} {tt : PySem.Expr}
theorem Thrown.ty {M : Model} {h : Heap} {l : List Env} (R : Thrown base G l C spot e news h) : Looks M h (typeOf (.ref e)) (.ref C) := by
  obtain ⟨B, d, ts, _, _, _, hfly, _⟩ := R
  obtain ⟨vs, he, _⟩ := hfly.tb
  exact (Looks.ld (part := some headPart) he).andThen .now
theorem Thrown.keeps {h h' : Heap} {l : List Env} (R : Thrown base G l C spot e news h) (k : ∀ b o, h.get? b = some o → h'.get? b = some o) : Thrown base G l C spot e news h' := by
  obtain ⟨B, d, ts, hB, hBG, hl, hfly, hd, hde, hdl, hsp⟩ := R
  obtain ⟨vs, he, T, oT, ts', h1, h2, h3, h4, h5, h6⟩ := hfly.tb
  exact ⟨B, d, ts, hB, hBG, hl, ⟨fun b o x => k b o (hfly.stays b o x), hfly.new, hfly.frames.of_keeps fun b o x _ => ⟨o, k b o x, rfl⟩, vs, k _ _ he, T, oT, ts', h1, h2, h3, k _ _ h4, h5, h6⟩, hd, hde, hdl, hsp.up (Heap.UpToSlots.of_keeps k)⟩
theorem look_T (R : Thrown base G (envOf name scope L a cd :: outer) C spot e news s'.heap) (K : Below A₀ base outer g) (hsm : G.UpToSlots s'.heap)
    (k : ∀ h', Thrown base G (envOf name scope L a cd :: outer) C spot e news h' → G.UpToSlots h' → wpAny (model prog w) (A₀.deeper (envOf name scope L a cd)) (handleBy (.ref e) (envOf name scope L a cd) hs) Q E { s' with heap := h' }) :
    wpAny (model prog w) (A₀.deeper (envOf name scope L a cd)) (noteFrame (.ref e) (envOf name scope L a cd))
      (fun _ s₂ => wpAny (model prog w) (A₀.deeper (envOf name scope L a cd)) (setFlight (.ref e) none) (fun _ s₃ =>
        wpAny (model prog w) (A₀.deeper (envOf name scope L a cd)) (handleBy (.ref e) (envOf name scope L a cd) hs) Q E s₃) E s₂) E s' := by
  obtain ⟨B, d, ts, hB, hBG, hl, hfly, hd, hde, hdl, hsp⟩ := R
  refine note_fly (Around.frames_deeper K.stack) rfl hfly (.inr rfl) fun h₄ x1 x2 => ?_
  refine flight_fly x1 fun h₅ y1 y2 => ?_
  exact k h₅ ⟨B, d, ts, hB, hBG, hl, y1, hd, hde, hdl, hsp.up (x2.trans y2)⟩ (hsm.trans (x2.trans y2))
theorem pass_T (R : Thrown base G (envOf name scope L a cd :: outer) C spot e news s'.heap) (F : Fr g L G m) (K : Below A₀ base outer g) (hsm : G.UpToSlots s'.heap) (XB : KF.In base) (TB : Top p loose mean mg mb base)
    (T : KtsTest prog w KF p loose mg mb name scope L a cd (.ref C) tt false)
    (k : ∀ h', Thrown base G (envOf name scope L a cd :: outer) C spot e news h' → G.UpToSlots h' → wpAny (model prog w) (A₀.deeper (envOf name scope L a cd)) (handleBy (.ref e) (envOf name scope L a cd) rest) Q E { s' with heap := h' }) :
    wpAny (model prog w) (A₀.deeper (envOf name scope L a cd)) (handleBy (.ref e) (envOf name scope L a cd) (.ExceptHandler (some tt) nm body pos :: rest)) Q E s' := by
  have R' := R
  obtain ⟨B, d, ts, hB, hBG, hl, hfly, _⟩ := R'
  obtain ⟨g₅, T₅, F₅, K₅⟩ := kts_ground K F hBG hfly.stays hsm
  refine wpAny_handleBy_cons (codeAny_handlers_test (T _ _ _ _ g₅ e m F₅ (XB.keeps K₅.stays) (topRead_of (TB.keeps K₅.stays)) R.ty fun h' kp => ?_)) (by intro q; cases q)
  exact k h' (R.keeps kp) (hsm.trans (Heap.UpToSlots.of_keeps kp))
/-- what is known of a caught error -/
def CaughtAt (C : Addr) (spot : Nat) (e : Addr) (g : Heap) (L : Addr) (h : Heap) : Prop :=
  ∃ d ts vs od es n sl, h.get? e = some { errObj C d with data := .fields vs } ∧ h.get? d = some { od with slots := sl } ∧ od.data = .dict es n ∧ lookIn (Str.ofString "spot") od = some (some (.int spot ts)) ∧ g.get? e = none ∧ g.get? d = none ∧ e ≠ L ∧ d ≠ L
theorem hit_T (R : Thrown base G (envOf name scope L a cd :: outer) C spot e news s'.heap) (F : Fr g L G m) (K : Below A₀ base outer g) (hsm : G.UpToSlots s'.heap) (XB : KF.In base) (TB : Top p loose mean mg mb base)
    (D : KtsDicts (outer.filterMap (·.frame)) g) (T0 : KtsTurn (outer.filterMap (·.frame)) g₀ g) (T : KtsTest prog w KF p loose mg mb name scope L a cd (.ref C) tt true)
    (k : ∀ h' g' d ts od tk, KtsTurn (outer.filterMap (·.frame)) g₀ g' → Fr g' L h' (fun y => if y = n then some (.ref e) else m y) →
      News g' L h' ((e, od) :: news) → od.cls = .ref C → od.dict = some d → (∃ vs, od.data = .fields vs) → (∃ o2, News g' L h' [(d, o2)] ∧ (∃ es n, o2.data = .dict es n) ∧ lookIn (Str.ofString "spot") o2 = some (some (.int spot ts))) →
      Below A₀ base outer g' → KF.In g' → Top p loose mean mg mb g' → KtsDicts (outer.filterMap (·.frame)) g' →
      wpAny (model prog w) ((A₀.deeper (envOf name scope L a cd)).mark (some (.ref e))) (execs (b₀ :: suite) (envOf name scope L a cd))
        (fun f s₄ => wpAny (model prog w) (A₀.deeper (envOf name scope L a cd)) (do bindName (envOf name scope L a cd) n .none; unbindBehindTheSuite (envOf name scope L a cd) n pos) (fun _ s₅ => Q f s₅) E s₄)
        (AsSuiteRaised (model prog w) ((A₀.deeper (envOf name scope L a cd)).mark (some (.ref e))) (envOf name scope L a cd) n pos (notedBy (model prog w) ((A₀.deeper (envOf name scope L a cd)).mark (some (.ref e))) (envOf name scope L a cd) (cameBackBy (model prog w) (A₀.deeper (envOf name scope L a cd)) (envOf name scope L a cd) E)))
        { s' with heap := h', toks := tk })
    (hk : scope.kind = .function := by rfl) (hlo : (envOf name scope L a cd).kindOf n = some .local := by rfl) :
    wpAny (model prog w) (A₀.deeper (envOf name scope L a cd)) (handleBy (.ref e) (envOf name scope L a cd) (.ExceptHandler (some tt) (some n) (b₀ :: suite) pos :: rest)) Q E s' := by
  have R' := R
  obtain ⟨B₁, _, _, _, hBG₁, _, hfl₁, _⟩ := R'
  obtain ⟨g₅, T₅, F₅, K₅⟩ := kts_ground K F hBG₁ hfl₁.stays hsm
  refine wpAny_handleBy_cons (codeAny_handlers_test (T _ _ _ _ g₅ e m F₅ (XB.keeps K₅.stays) (topRead_of (TB.keeps K₅.stays)) R.ty fun h₅ kp => ?_)) (by intro q; cases q)
  have hsm₅ : G.UpToSlots h₅ := hsm.trans (Heap.UpToSlots.of_keeps kp)
  obtain ⟨B, d, ts, hB, hBG, hl, hheld, hd, hde, hdl, hsp⟩ := R.keeps kp
  have hL : B.get? L = none := by
    obtain ⟨_, ⟨L', _, hf, hn', _⟩, _⟩ := hheld.frames
    obtain rfl : L = L' := Option.some.inj hf
    exact hn'
  refine codeAny_handlers_suite_as ?_
  refine flight_fly hheld fun h₆ hfl₆ hsm₆ => ?_
  obtain ⟨g₆, T₆, F₆, K₆⟩ := kts_ground K F hBG hfl₆.stays (hsm₅.trans hsm₆)
  obtain ⟨vs, hoe, _⟩ := hfl₆.tb
  obtain ⟨o2, ho2, hlk, es2, n2, hd2⟩ := hsp.up hsm₆
  have ne₆ : g₆.get? e = none := T₆.none_ _ (kts_fresh F hBG hfl₆.new fun o ho m => by
    obtain ⟨_, o', ho', hd⟩ := K.frames.mem m
    rw [ho] at ho'
    cases ho'
    obtain ⟨sl, hs⟩ := (hsm₅.trans hsm₆) _ _ (F.keep _ _ ho) hd
    rw [hoe] at hs
    exact hd _ (congrArg Obj.data (Option.some.inj hs)).symm)
  have nd₆ : g₆.get? d = none := T₆.none_ _ (kts_fresh F hBG hd fun o ho m => hdl (List.mem_filterMap.mpr (by
    obtain ⟨env, he, hf⟩ := List.mem_filterMap.mp m
    exact ⟨env, .tail _ he, hf⟩)))
  have Ne : News g₆ L h₆ ((e, _) :: []) := News.more F₆ News.nil hoe (fun es n q => by cases q) ne₆
  have Nd : News g₆ L h₆ [(d, o2)] := fun q hq => by
    rw [List.mem_singleton.mp hq]
    exact ⟨ho2, fun z => hdl (List.mem_filterMap.mpr ⟨_, .head _, by rw [show d = L from z]; rfl⟩), nd₆⟩
  have Nl : News g₆ L h₆ news := fun q hq => ⟨hfl₆.stays _ _ (hl q hq).1, (fun z => by have := (hl q hq).1; rw [z, hL] at this; cases this), T₆.none_ _ (kts_none F.keep (hl q hq).2)⟩
  refine stN F₆ (news := ((e, _) :: news) ++ [(d, o2)]) (fun q hq => (List.mem_append.mp hq).elim (fun hq => (List.mem_cons.mp hq).elim (fun z => by rw [z]; exact Ne _ (.head _)) (Nl q)) (Nd q)) (fun h₇ F₇ N₇ => ?_) hk hlo
  exact k h₇ g₆ d ts _ _ (T0.trans T₆) F₇ (fun q hq => N₇ q (List.mem_append_left _ hq)) rfl rfl ⟨vs, rfl⟩ ⟨o2, fun q hq => N₇ q (List.mem_append_right _ hq), ⟨es2, n2, hd2⟩, hlk⟩ K₆ (XB.keeps K₆.stays) (TB.keeps K₆.stays) (D.turn T₆)
end
end
section
theorem getterExc {Pp : Params} {C : Addr} (hC : C = 52 ∨ C = 64) : findIn (hd.heap_39 Pp) (.ref C) "__getattribute__" = some (some (.builtin "BaseException.__getattribute__")) := by
  rcases hC with rfl | rfl <;> k_is
theorem noGetter {Pp : Params} {C : Addr} (hC : C = 52 ∨ C = 64) : findIn (hd.heap_39 Pp) (.ref C) "__getattr__" = some none := by
  rcases hC with rfl | rfl <;> k_is
theorem free_spot2 {Pp : Params} {C : Addr} (hC : C = 52 ∨ C = 64) : findIn (hd.heap_39 Pp) (.ref C) "spot" = some none := free_spot hC
open PySem.Builtin PySem.Builtin.ObjectAttr
section
variable {w : World} {A : Around} {h : Heap} {g : Array GenState} {dr : Drawn} {t : Nat} {os : OsState} {e d C : Addr} {prog : Program} {E : Value → Shared → Prop} {oe o2 : Obj} {v : Value} {vs : Array Value}
theorem spot_entry {tk : Tok} {Q : PySem.Fin → Shared → Prop} (hC : C = 52 ∨ C = 64) (X : (hd.heap_39 w.params).In h) (hx : h.get? e = some oe) (hc : oe.cls = .ref C) (hdi : oe.dict = some d) (hdt : oe.data = .fields vs) (h2 : h.get? d = some o2) (hlk : lookIn (Str.ofString "spot") o2 = some (some v)) (hq : Q (.done (.ret v)) ⟨h, g, dr, t, os⟩) :
    wpAny (model prog w) A (Builtin.«object.__getattribute__» ⟨[.ref e, .str "spot" tk], []⟩) Q E ⟨h, g, dr, t, os⟩ := by
  obtain ⟨cd, hcd, ho, hdd⟩ := clsExc (Pp := w.params) hC
  have L1 : Looks (model prog w) h (typeLookup (.ref C) "spot") none := looks_findIn X (free_spot2 hC)
  have L2 : Looks (model prog w) h (classData C) cd := looks_clsIn X hcd
  have L3 : Looks (model prog w) h (nsGet d "spot") (some v) := by
    unfold nsGet
    exact (Looks.ld h2).andThen (Looks.of_pure (nsLook_of hlk))
  repeat (any_goals (first | assumption | with_reducible refine Looks.at (by assumption) ?_ | (with_reducible refine wpAny_loadPart_at hx ?_; first | rw [hc] | rw [hdt] | rw [hdi] | skip) | wp_step))
  rw [hdi]
  repeat (any_goals (first | assumption | with_reducible refine Looks.at (by assumption) ?_ | with_reducible refine wpAny_loadPart_at hx ?_ | wp_step))
theorem spot_check {M : Model} {nameV : Value} {Q : Unit → Shared → Prop} (hC : C = 52 ∨ C = 64) (X : (hd.heap_39 w.params).In h) (hx : h.get? e = some oe) (hc : oe.cls = .ref C) (hq : Q () ⟨h, g, dr, t, os⟩) :
    wpAny M A (checkBuiltinCall "BaseException.__getattribute__" ⟨[.ref e, nameV], []⟩) Q E ⟨h, g, dr, t, os⟩ := by
  have hk : builtinKind "BaseException.__getattribute__" = some .slot := by decide +kernel
  have hsplit : splitId "BaseException.__getattribute__" = some ("BaseException", "__getattribute__") := by decide +kernel
  have ha := F.args_bexc_ga (.ref e) nameV
  obtain ⟨cd, hcd, ho, hdd⟩ := clsExc (Pp := w.params) hC
  have L0 : Looks M h (typeOf (.ref e)) (.ref C) := by rw [← hc]; exact (Looks.ld (part := some headPart) hx).andThen .now
  have sub : Looks M h (isInstance (.ref e) (.type "BaseException")) true := L0.andThen (looks_mroIn X (by unfold mroIn; rw [hcd, Option.bind_some, ho]; simp [excMro]))
  exact @check_slot M _ _ ⟨h, g, dr, t, os⟩ "BaseException.__getattribute__" "BaseException" "__getattribute__" (.ref e) [nameV] [] _ hk hsplit sub ha hq
theorem spot_attr {expr : Bool} {spot : Nat} {ts : Tok} {Q : Value → Shared → Prop} (hC : C = 52 ∨ C = 64) (X : (hd.heap_39 w.params).In h) (hx : h.get? e = some oe) (hc : oe.cls = .ref C) (hdi : oe.dict = some d) (hdt : oe.data = .fields vs) (h2 : h.get? d = some o2) (hlk : lookIn (Str.ofString "spot") o2 = some (some (.int spot ts))) (hq : Q (.int spot ts) ⟨h, g, dr, t + 1, os⟩) :
    wpAny (model prog w) A (getAttr (.ref e) "spot" expr) Q E ⟨h, g, dr, t, os⟩ := by
  have FB := F.attrBase_Exception
  have f3 := FB.ga.bind (.ref e)
  have hx2 : (Value.builtin "BaseException.__getattribute__" == Value.builtin "object.__getattribute__") = false := by decide +kernel
  have hx0 : (expr && onTheHeap (Value.builtin "BaseException.__getattribute__")) = false := by cases expr <;> rfl
  have hx1 : (onTheHeap (Value.ref C) && Value.builtin "BaseException.__getattribute__" == Value.builtin "object.__getattribute__") = false := by rw [hx2]; rfl
  have L1 : Looks (model prog w) h (typeLookup (.ref C) "__getattribute__") (some (.builtin "BaseException.__getattribute__")) := looks_findIn X (getterExc hC)
  have L2 : Looks (model prog w) h (typeLookup (.ref C) "__getattr__") none := looks_findIn X (noGetter hC)
  unfold getAttr
  refine wpAny_bind (wpAny_mkText ?_)
  repeat (any_goals (first | assumption | with_reducible refine Looks.at (by assumption) ?_ | (with_reducible refine wpAny_loadPart_at hx ?_; rw [hc]) | wp_step))
  refine codeAny_call_builtin FB.ga.plain F.entry_bexc_ga (spot_check hC X hx hc (spot_entry hC X hx hc hdi hdt h2 hlk ?_))
  repeat (any_goals (first | assumption | wp_step))
end
end
section
def LeaveT (env : Env) (A₀ : Around) (base : Heap) (outer : List Env) (h₀ : Heap) (L : Addr) (m : Str → Option Value) (g : Heap) (R : Result → Shared → Prop) (v : Value) (s' : Shared) : Prop :=
  ∃ g' L' m' news', KtsTurn ((env :: outer).filterMap (·.frame)) g g' ∧ Fr g' L' s'.heap m' ∧ News g' L' s'.heap news' ∧
    ∀ h₀', KtsTurn (outer.filterMap (·.frame)) h₀ h₀' → Fr h₀' L s'.heap m → News h₀' L s'.heap news' → Below A₀ base outer h₀' → KtsDicts (outer.filterMap (·.frame)) h₀' → R (.ok (.ret v)) s'
section
variable {prog : Program} {w : World} {A₀ A : Around} {s : Shared} {base h₀ : Heap} {outer : List Env} {env : Env} {L : Addr} {m : Str → Option Value} {news : List (Addr × Obj)} {K : Frag} {p : Program} {loose : List Str} {mean : ExcName → Option Value} {mg mb : Str → Option Value}
    {R : Result → Shared → Prop} {name qual : Str} {params : Arguments} {body : List Stmt} {scope : Scope} {dV kV doc pm cdv ct oc : Value} {an od : Option Addr} {osl : Array (Option Value)} {f : Addr} {args : Args} {binds : List (Str × Value)}
theorem code_defT (B : Below A₀ base outer h₀) (F : Fr h₀ L s.heap m) (X₀ : K.In h₀) (N : News h₀ L s.heap news) (T : Top p loose mean mg mb h₀) (D : KtsDicts (outer.filterMap (·.frame)) h₀)
    (hA : A.frames = some (env :: outer)) (hf : env.frame = some L) (hke : env.scope.kind = .function)
    (ho : K.lookup f = some ⟨oc, od, .func (fnOf name qual params body scope dV kV doc pm an cdv ct), osl⟩) (hcd : codeIn K cdv qual = true) (hroom : A.depth < recursionLimit)
    (hbind : BindsTo s (fnOf name qual params body scope dV kV doc pm an cdv ct) args binds) (hloc : ∀ y ∈ binds, scope.names.lookup y.1 = some .local)
    (h : ∀ g L' h₁, Fr h₀ L g m → Fr g L' h₁ (fun y => binds.reverse.lookup y) → News g L' h₁ news → Below A base (env :: outer) g → K.In g → Top p loose mean mg mb g → KtsDicts ((env :: outer).filterMap (·.frame)) g →
      wpAny (model prog w) (A.deeper (envOf qual scope L' f cdv)) (execs body (envOf qual scope L' f cdv))
        (fun fl s' => LeaveT env A₀ base outer h₀ L m g R (match fl with | .ret v => v | _ => .none) s')
        (fun e s' => wpAny (model prog w) (A.deeper (envOf qual scope L' f cdv)) (leaving (envOf qual scope L' f cdv) e) (fun _ s'' => R (.error e) s'') (fun e' s'' => R (.error e') s'') s')
        { s with heap := h₁, toks := s.toks + binds.length })
    (hco : scope.isCoroutine = false) (hgen : scope.isGenerator = false) (hk : scope.kind = .function)
    (hcell : ∀ x ∈ scope.names, x.2 ≠ .cell) : codeAny (model prog w) A (.call (.ref f) args) R s := by
  have X := X₀.keeps F.keep
  refine codeAny_call_def (fd := fnOf name qual params body scope dV kV doc pm an cdv ct) (body := body) (binds := binds) hroom (X _ _ ho) rfl (T.nolimit.keeps F.keep) (codeRec_of X hcd) rfl hbind hcell hloc (fun h₁ hns hk₁ => ?_) hco hgen hk
  have nm : ∀ b o, h₀.get? b = some o → b ∉ news.map (·.1) := fun b o e q => by
    obtain ⟨p, hp, rfl⟩ := List.mem_map.mp q
    rw [(N p hp).2.2] at e; cases e
  have st : h₀.StaysIn (hideAll s.heap (news.map (·.1))) := fun b o e => hideAll_get _ (F.keep b o e) (nm b o e)
  obtain ⟨oL, es, ep, hL, hLd, hLk, hLf⟩ := F.ns
  have nL : L ∉ news.map (·.1) := fun q => by
    obtain ⟨p, hp, e⟩ := List.mem_map.mp q
    exact (N p hp).2.1 e
  have hLg := hideAll_get (news.map (·.1)) hL nL
  have nLb : base.get? L = none := fresh_of_stays B.stays (kts_self F)
  have hN : ∀ h', h'.get? L = some oL → Heap.Ns h' L m := fun h' e => ⟨oL, es, ep, e, hLd, hLk, hLf⟩
  have hNs : ∀ (sl : Array (Option Value)) h', h'.get? L = some { oL with slots := sl } → Heap.Ns h' L m := fun sl h' e => ⟨_, es, ep, e, hLd, hLk, hLf⟩
  have B₂ : Below A base (env :: outer) (hideAll s.heap (news.map (·.1))) :=
    ⟨hA, fun b o e => st b o (B.stays b o e), Heap.FunFrames.cons (by rw [hke]; decide) hf (hN _ hLg) nLb (B.frames.of_keeps fun b o hb _ => ⟨o, st b o hb, rfl⟩)⟩
  refine wpAny_mono (h _ s.heap.objs.size h₁ ⟨hN _ hLg, st, F.above⟩ ⟨hns, fun b o e => hk₁ b o (of_hideAll _ e), Nat.le_of_eq (hideAll_size _ _)⟩
    (fun p hp => ⟨hk₁ _ _ (N p hp).1, Nat.ne_of_lt (Heap.lt_size (N p hp).1), hideAll_none _ (List.mem_map_of_mem hp)⟩) B₂ (X₀.keeps st) (T.keeps st) (fun b hb => by
      rcases env_mem hf hb with rfl | hb
      · exact ⟨oL, es, ep, hLg, hLd⟩
      · obtain ⟨o, es', n', ho', hd'⟩ := D b hb
        exact ⟨o, es', n', st b o ho', hd'⟩)) (fun fl s' hl => ?_) fun _ _ y => y
  have nL₀ : h₀.get? L = none := kts_self F
  obtain ⟨g', L', m', news', T', F', N', k⟩ := hl
  obtain ⟨sl, hs⟩ := T'.up hLg
  obtain ⟨T₁, S₁⟩ := kts_turn_at (h := s'.heap) (fs := outer.filterMap (·.frame)) (g := h₀)
    (fun b hb => by
      obtain ⟨_, o, ho', _⟩ := B.frames.mem hb
      exact ⟨o, ho'⟩)
    (fun b o e nmem => F'.keep b o (T'.other b o (st b o e) (fun q => by
      rcases env_mem hf q with z | z
      · rw [z, nL₀] at e
        cases e
      · exact nmem z)))
    (fun b o e hm => by
      obtain ⟨sl', hs'⟩ := T'.up (st b o e)
      exact ⟨sl', F'.keep _ _ hs'⟩)
  have B₃ : Below A₀ base outer (ktsHeap s'.heap (outer.filterMap (·.frame)) h₀) := ⟨B.stack, fun b o e => T₁.other b o (B.stays b o e) (fun hm => by
    rw [(B.frames.mem hm).1] at e
    cases e), B.frames.of_keeps fun b o e _ => by
    obtain ⟨sl', hs'⟩ := T₁.up e
    exact ⟨_, hs', rfl⟩⟩
  refine k _ T₁ ⟨hNs sl _ (F'.keep _ _ hs), S₁, by rw [T₁.size]; exact F.above⟩ (fun p hp => ⟨(N' p hp).1, fun q => ?_, ?_⟩) B₃ (D.turn T₁)
  · have := (N' p hp).2.2; rw [q, hs] at this; cases this
  · refine T₁.none_ _ ?_
    cases q : h₀.get? p.1 with
    | none => rfl
    | some o =>
      obtain ⟨sl', hs'⟩ := T'.up (st _ _ q)
      have := (N' p hp).2.2
      rw [hs'] at this
      cases this
end
end
section
local macro_rules | `(tactic| walk_at "callWith ref") => `(tactic| ((with_reducible show wpAny _ _ (callWith _ (Value.ref _) _ (backTo _ (starEach [] _)) []) _ _ _); refine Hold.out ?_))
local macro_rules | `(tactic| walk_at $k:str) => if ["getAttr ref"].contains k.getString then `(tactic| refine Hold.out ?_) else Lean.Macro.throwUnsupported
/-- a call that may catch below: the frames may change their slots -/
def SaysC (w : World) (dn un' : Nat) (f : Addr) (vs : List Value) (led ro : List (Addr × Obj)) (Out : List (Addr × Obj) → Value → List (Addr × Obj) → Prop) : Prop :=
  ∀ {loose : List Str} {mean : ExcName → Option Value} {mg mb : Str → Option Value} {dp un : Nat} {gd : Option (List Code)} {cn : Str} {cs : Scope} {a : Addr} {ccd : Value} {cl : List (Str × Addr)} {outer : List Env} {A₀ : Around} {base h₀ : Heap} {L : Addr} {m : Str → Option Value} {s : Shared} {Q E : Value → Shared → Prop} {news : List (Addr × Obj)},
   Below A₀ base outer h₀ → Fr h₀ L s.heap m → (hd.heap_39 w.params).In base → News h₀ L s.heap (led ++ news) → (∀ p ∈ ro, p ∈ news) → Top topProg loose mean mg mb base → KtsDicts (outer.filterMap (·.frame)) h₀ → cs.kind = .function →
   dp + dn < recursionLimit → un + un' < cLine → (∀ p ∈ led, ∀ q ∈ news, q.1 ≠ p.1) →
   (∀ (r : Value) (led' : List (Addr × Obj)) (h₀' h' : Heap) (tk' : Nat), Out news r led' → KtsTurn (outer.filterMap (·.frame)) h₀ h₀' → Fr h₀' L h' m → News h₀' L h' (led' ++ news) → Below A₀ base outer h₀' → KtsDicts (outer.filterMap (·.frame)) h₀' → Q r { s with heap := h', toks := tk' }) →
   wpAny (model PySem.Challenge.pw_pf0162_01 w) (ktrTop dp un gd cn cs L a ccd cl outer) (call (.ref f) vs) Q E s
def FaultOut (led : List (Addr × Obj)) (Out : List (Addr × Obj) → Value → List (Addr × Obj) → Prop) (Thr : Addr → Nat → Prop) (news : List (Addr × Obj)) (r : Value) (led' : List (Addr × Obj)) : Prop :=
  (r = .none ∧ ∃ rv, Out news rv led') ∨ (∃ C spot ts, Thr C spot ∧ r = .int (spot : Nat) ts ∧ led' = led)
theorem exm_one {K : Frag} {cls c : Value} {b : Bool} (h1 : subIn K c (.type "BaseException") = some true) (h2 : kitCls K cls c = some b) : exmOne K cls c = some b := by
  unfold exmOne
  rw [h1, h2]
  rfl
theorem kit_ww {Pp : Params} : kitCls (hd.heap_39 Pp) (.ref 52) (.ref 52) = some true := by first | rfl | kernel_rfl
theorem kit_gw {Pp : Params} : kitCls (hd.heap_39 Pp) (.ref 64) (.ref 52) = some false := by first | rfl | kernel_rfl
theorem kit_gg {Pp : Params} : kitCls (hd.heap_39 Pp) (.ref 64) (.ref 64) = some true := by first | rfl | kernel_rfl
set_option maxHeartbeats 8000000 in
theorem law_fault_says {w : World} {cv : Addr} {led ro : List (Addr × Obj)} {Out : List (Addr × Obj) → Value → List (Addr × Obj) → Prop} {Thr : Addr → Nat → Prop} {dn un' : Nat} (hcall : SaysR w dn un' cv [] led ro Out Thr) (hThr : ∀ C spot, Thr C spot → C = 52 ∨ C = 64)
   (hkeep : ∀ h : Heap, (hd.heap_39 w.params).In h → (∀ p ∈ ro, h.get? p.1 = some p.2) → ∃ k, (k = Keeper.frame ∨ k = Keeper.machine ∨ k = Keeper.boundFrame) ∧ Looks (model PySem.Challenge.pw_pf0162_01 w) h (keeperOf (.ref cv)) k) :
   SaysC w (dn + 2) (un' + 24) 253 [.ref cv] led ro (FaultOut led Out Thr) := by
  intro loose mean mg mb dp un gd cn cs a ccd cl outer A₀ base h₀ L m s Q E news B F XB N hro TB D hk hd hu hsep hret
  have X := XB.keeps B.stays
  have T := TB.keeps B.stays
  refine wpAny_call ?_
  k_dflt (refine' code_defT ?k1 ?k2 ?k3 ?k4 ?k5 ?kD ?kA ?kF ?kK ?k6 ?k7 ?k8 ?k9 ?kB ?_ ?c2 ?c3 ?c4 ?c5; (case kA => exact rfl); (case kF => exact rfl); (case kK => assumption); (case k1 => exact B); (case k2 => exact F); (case k3 => exact X); (case k4 => exact N); (case k5 => exact T); (case kD => exact D); (case k6 => k_is); (case k7 => k_is); (case k8 => ktr_room); (case k9 => exact BindsTo.of_eq rfl); (case c5 => decide); (case kB => exact locs rfl); (case c2 => exact rfl); (case c3 => exact rfl); (case c4 => exact rfl); k_whole)
  intro g L' h₁ FG F' N' B' X' T' D'
  refine toks_any ?_
  intro tk0
  replace F' : Fr g L' h₁ (fun y => List.lookup y [(Str.ofString "call", .ref cv)]) := F'
  (try dsimp only); (try k_lift B'); (try k_fold)
  clear N F
  k_steps
  refine Hold.go ?_
  (with_reducible rename Fr _ _ _ _ => F1)
  refine callWith_of rfl (fun _ hp => hp) (evalArgs_nil3 ⟨hkeep _ (X'.keeps F1.keep) (fun p hp => (N' p (List.mem_append_right _ (hro p hp))).1), ?_⟩)
  refine wpAny_call (hcall B' F1 X' N' hro T' rfl (by first | ktr_room | omega) (by first | ktr_units | omega) hsep ?_ ?_)
  · rintro r9 led9 h9 tk9 hO F9 N9
    dsimp only
    k_steps
    rename Fr _ _ _ _ => F2
    rename News _ _ _ _ => N2
    exact ⟨g, L', _, _, .refl, F2, N2, fun h₀' T1 F1 N1 B1 D1 => hret _ _ _ _ _ (.inl ⟨rfl, _, hO⟩) T1 F1 N1 B1 D1⟩
  · rintro C spot e9 G h9 tk9 hT F9 R9 sm9
    dsimp only
    clear F1
    refine look_T R9 B' sm9 fun h4 R4 sm4 => ?_
    have hC := hThr _ _ hT
    rcases hC with rfl | rfl
    · refine hit_T R4 F9 B' sm4 XB TB D' .refl (test_name (.inl (by k_is)) (b := true) (exm_one (by k_is) kit_ww) rfl rfl (by decide)) fun h5 g5 d ts od tk5 T5 F5 N5 hoc hod hof hsp B5 X5 T5' D5 => ?_
      obtain ⟨ws, hof⟩ := hof
      obtain ⟨o2, N6, _, hlk⟩ := hsp
      have h2 := (N6 (d, o2) (.head _)).1
      clear N6
      clear F9 B' X' T' D'
      k_steps
      refine Hold.go ?_
      refine spot_attr (.inl rfl) (X5.keeps F5.keep) (N5 (e9, od) (.head _)).1 hoc hod hof h2 hlk ?_
      k_steps
      rename Fr _ _ _ _ => F7
      rename News _ _ _ _ => N7
      exact ⟨g5, L', _, _, T5, F7, sub_drop N7 (sub_skip sub_self), fun h₀' T1 F1 N1 B1 D1 => hret _ _ _ _ _ (.inr ⟨52, spot, ts, hT, rfl, rfl⟩) T1 F1 N1 B1 D1⟩
    · refine pass_T R4 F9 B' sm4 XB TB (test_name (.inl (by k_is)) (b := false) (exm_one (by k_is) kit_gw) rfl rfl (by decide)) fun h5 R5 sm5 => ?_
      refine hit_T R5 F9 B' sm5 XB TB D' .refl (test_name (.inl (by k_is)) (b := true) (exm_one (by k_is) kit_gg) rfl rfl (by decide)) fun h5 g5 d ts od tk5 T5 F5 N5 hoc hod hof hsp B5 X5 T5' D5 => ?_
      obtain ⟨ws, hof⟩ := hof
      obtain ⟨o2, N6, _, hlk⟩ := hsp
      have h2 := (N6 (d, o2) (.head _)).1
      clear N6
      clear F9 B' X' T' D'
      k_steps
      refine Hold.go ?_
      refine spot_attr (.inr rfl) (X5.keeps F5.keep) (N5 (e9, od) (.head _)).1 hoc hod hof h2 hlk ?_
      k_steps
      rename Fr _ _ _ _ => F7
      rename News _ _ _ _ => N7
      exact ⟨g5, L', _, _, T5, F7, sub_drop N7 (sub_skip sub_self), fun h₀' T1 F1 N1 B1 D1 => hret _ _ _ _ _ (.inr ⟨64, spot, ts, hT, rfl, rfl⟩) T1 F1 N1 B1 D1⟩
end
section
def optIntD : Option Nat → PyData
  | none => .none
  | some v => .int v
def optStrD : Option (List Nat) → PyData
  | none => .none
  | some v => .str (S v)
def rowData (r : Row) : PyData := .tuple [.str (S r.kind), .str (S r.text), .int r.spot, optIntD r.value, optStrD r.knd]
structure Row.Short (r : Row) : Prop where
  kind : ∀ c ∈ r.kind, c < 128
  text : ∀ c ∈ r.text, c < 128
  knd : ∀ k, r.knd = some k → ∀ c ∈ k, c < 128
theorem strOk_S {x : List Nat} (h : ∀ c ∈ x, c < 128) : PyData.strOk (S x) = true := by
  unfold PyData.strOk
  rw [← Array.all_toList]
  exact List.all_eq_true.mpr fun c hc => decide_eq_true (Nat.lt_trans (h c hc) (by decide))
theorem rowData_shaped (r : Row) (hr : r.Short) : SeqAt.shaped (rowData r) = true := by
  obtain ⟨k, t, s, v, d⟩ := r
  obtain ⟨h1, h2, h3⟩ := hr
  replace h1 := strOk_S h1
  replace h2 := strOk_S h2
  dsimp only at h1 h2 h3
  cases v <;> cases d <;> simp [h1, h2, SeqAt.shaped, rowData, optIntD, optStrD, PyData.canLay0, PyData.canLayAll0, PyData.depth, PyData.depthAll] <;> exact strOk_S (h3 _ rfl)
theorem reads_row {h : Heap} {a : Addr} {r : Row} {vs : List Value} (ha : h.get? a = some (tupObj vs)) (hr : RowIs r vs) : ∃ as, Reads h (.ref a) (rowData r) as := by
  obtain ⟨t1, t2, t3, t4, t5, rfl⟩ := hr
  obtain ⟨k, t, s, v, d⟩ := r
  cases v <;> cases d <;> exact ⟨_, reads_tuple_at ha rfl rfl (.cons (.str _ _) (.cons (.str _ _) (.cons (.int _ _) (.cons (by first | exact .int _ _ | exact .none) (.cons (by first | exact .str _ _ | exact .none) .nil)))))⟩
theorem pair_shaped {x : List Nat} {n : Nat} (h : ∀ c ∈ x, c < 128) : SeqAt.shaped (.tuple [.str (S x), .int n]) = true := by
  simp [strOk_S h, SeqAt.shaped, PyData.canLay0, PyData.canLayAll0, PyData.depth, PyData.depthAll]
def pairData (x : List Nat) (n : Nat) : PyData := .tuple [.str (S x), .int n]
theorem reads_pair {h : Heap} {a : Addr} {x : List Nat} {n : Nat} {t1 t2 : Tok} (ha : h.get? a = some (tupObj [.str (S x) t1, .int (n : Nat) t2])) : ∃ as, Reads h (.ref a) (pairData x n) as :=
  ⟨_, reads_tuple_at ha rfl rfl (.cons (.str _ _) (.cons (.int _ _) .nil))⟩
section
variable {prog : Program} {w : World} {A : Around} {E : Value → Shared → Prop} {s : Shared} {Q : Value → Shared → Prop} {a b : Addr} {d : PyData}
theorem data_ne (ra : ∃ as, Reads s.heap (.ref a) d as) (rb : ∃ bs, Reads s.heap (.ref b) d bs) (hd : SeqAt.shaped d = true) (hu : A.units + 64 < cLine) (h : Q (.bool false) s) : wpAny (model prog w) A (compareOp .NotEq (.ref a) (.ref b)) Q E s := by
  obtain ⟨as, ra⟩ := ra
  obtain ⟨bs, rb⟩ := rb
  exact ne_dataH ra rb hd hd hu (by rw [SeqAt.eqv_refl d (SeqAt.canLay_of_shaped hd)]; exact h)
theorem data_eq (ra : ∃ as, Reads s.heap (.ref a) d as) (rb : ∃ bs, Reads s.heap (.ref b) d bs) (hd : SeqAt.shaped d = true) (hu : A.units + 64 < cLine) (h : Q (.bool true) s) : wpAny (model prog w) A (compareOp .Eq (.ref a) (.ref b)) Q E s := by
  obtain ⟨as, ra⟩ := ra
  obtain ⟨bs, rb⟩ := rb
  exact eq_dataH ra rb hd hd hu (by rw [SeqAt.eqv_refl d (SeqAt.canLay_of_shaped hd)]; exact h)
end
end
section
theorem meth_says {w : World} {dn un' : Nat} {f mo x : Addr} {led ro : List (Addr × Obj)} {Out : List (Addr × Obj) → Value → List (Addr × Obj) → Prop} {Thr : Addr → Nat → Prop} (h : SaysR w dn un' f [.ref x] led ro Out Thr) :
    SaysR w dn un' mo [] led ((mo, methodObj (.ref f) (.ref x)) :: ro) Out Thr := by
  intro loose mean mg mb dp un gd cn cs ac ccd cl outer A₀ base h₀ L m s Q E news B F X N hro T hkf hd hu hsep hret hthrow
  exact method_call (N _ (List.mem_append_right _ (hro _ (.head _)))).1 (h B F X N (fun p hp => hro p (.tail _ hp)) T hkf hd hu hsep hret hthrow)
theorem meth_keeps {w : World} {prog : Program} {f mo x : Addr} (hf : ∀ Pp : Params, fnIn (hd.heap_39 Pp) f = true) (h : Heap) (X : (hd.heap_39 w.params).In h) (hm : h.get? mo = some (methodObj (.ref f) (.ref x))) : ∃ k, (k = Keeper.frame ∨ k = Keeper.machine ∨ k = Keeper.boundFrame) ∧ Looks (model prog w) h (keeperOf (.ref mo)) k :=
  keeps_M (hf _) h ⟨hm, X⟩
theorem fnName {Pp : Params} : fnIn (hd.heap_39 Pp) 190 = true := by k_is
theorem fnSplit {Pp : Params} : fnIn (hd.heap_39 Pp) 197 = true := by k_is
end
section
local macro_rules | `(tactic| k_all) => `(tactic| assumption)
local macro_rules | `(tactic| walk_at $k:str) => if ["compareOp NotEq ref ref", "compareOp Eq ref ref"].contains k.getString then `(tactic| refine Hold.out ?_) else Lean.Macro.throwUnsupported
def curRow (sg : List Nat) (spot j : Nat) : Row := if sg.drop j = [] then endRow (spot + j) else signRow (sg.drop j) (spot + j)
structure AngSt where
  j : Nat
  k : Nat
  refs : List Value
  t : Addr
  vs : List Value
structure AngP (sg : List Nat) (spot : Nat) (t5 x dx D : Addr) (c : AngSt) : Prop where
  len : c.refs.length = 6
  last : c.refs.getD 5 .none = .ref t5
  here : c.refs.getD (min (c.k + 0) (c.refs.length - 1)) .none = .ref c.t
  k1 : 4 ≤ c.k
  k2 : c.k ≤ 5
  row : RowIs (curRow sg spot c.j) c.vs
  iff : sg.drop c.j = [] → c.k = 5
  iff2 : sg.drop c.j ≠ [] → c.k = 4
  jl : c.j ≤ sg.length
theorem angles_len : ∀ sg ∈ angles, sg.length ≤ 3 := by decide
theorem here_sep {w : World} {x dx D t : Addr} {refs : List Value} {c k : Nat} {ta tb tc : Tok} {o : Obj} {news : List (Addr × Obj)} (h1 : t ≠ x) (h2 : t ≠ dx) (h3 : t ≠ D) (n1 : ∀ p ∈ news, p.1 ≠ x) (n2 : ∀ p ∈ news, p.1 ≠ dx) (n3 : ∀ p ∈ news, p.1 ≠ D) :
    ∀ p ∈ hereLed w x dx D refs c k ta tb tc, ∀ q ∈ (t, o) :: news, q.1 ≠ p.1 := fun p hp q hq => by
  simp only [List.mem_cons, List.not_mem_nil, or_false] at hp hq
  rcases hp with rfl | rfl | rfl <;> rcases hq with rfl | hq
  · exact h1
  · exact n1 q hq
  · exact h2
  · exact n2 q hq
  · exact h3
  · exact n3 q hq
theorem sign_short {n : Nat} : (signRow [62] n).Short := ⟨by show ∀ c ∈ codes "sign", c < 128; decide +kernel, by show ∀ c ∈ [62], c < 128; decide, fun k h => by cases h⟩
theorem cons_ne {t y : Addr} {o : Obj} {news : List (Addr × Obj)} (h : t ≠ y) (n : ∀ p ∈ news, p.1 ≠ y) : ∀ p ∈ (t, o) :: news, p.1 ≠ y := fun p hp => by
  rcases List.mem_cons.mp hp with rfl | hp
  · exact h
  · exact n p hp
theorem angles_chars : ∀ sg ∈ angles, ∀ c ∈ sg, c < 128 := by decide
theorem cur_short {sg : List Nat} {spot j : Nat} (h : sg ∈ angles) : (curRow sg spot j).Short := by
  unfold curRow
  split
  · exact ⟨by show ∀ c ∈ codes "end", c < 128; decide +kernel, (fun _ h => nomatch h), (fun _ h => nomatch h)⟩
  · exact ⟨by show ∀ c ∈ codes "sign", c < 128; decide +kernel, fun c hc => angles_chars sg h c (List.drop_subset _ _ hc), (fun _ h => nomatch h)⟩
theorem move_1m {h₀ h : Heap} {L : Addr} {y z a b c : Addr × Obj} {rest : List (Addr × Obj)} (N : News h₀ L h (y :: a :: b :: c :: z :: rest)) : News h₀ L h ([a, b, c] ++ (y :: z :: rest)) := fun p hp => N p (by
  simp only [List.mem_cons, List.mem_append, List.not_mem_nil, or_false] at hp ⊢
  rcases hp with (h | h | h) | h | h | h <;> simp [h])
theorem ro_two {a b c : Addr × Obj} {rest : List (Addr × Obj)} : ∀ p ∈ [a, c], p ∈ a :: b :: c :: rest := fun p hp => by
  simp only [List.mem_cons, List.not_mem_nil, or_false] at hp ⊢
  rcases hp with h | h <;> simp [h]
theorem cur_len {sg : List Nat} {spot j : Nat} (h : sg ∈ angles) : (curRow sg spot j).text.length ≤ 1000 := by
  unfold curRow
  split
  · exact Nat.zero_le _
  · have := angles_len sg h
    show (sg.drop j).length ≤ 1000
    rw [List.length_drop]; omega
theorem cur_no {w : World} {x dx D : Addr} {refs : List Value} {c k spot j : Nat} {ta tb : Tok} {sg : List Nat} {news led : List (Addr × Obj)} {r : Value} (h : (sg.drop j).take 1 ≠ [62]) (ho : SplitOut w x dx D refs c k ta tb (curRow sg spot j) news r led) : False := by
  obtain ⟨tr, vr, _, _, hk, hc⟩ := ho
  unfold curRow at hk hc
  split at hk
  · exact absurd hk (by show codes "end" ≠ codes "sign"; decide +kernel)
  · rename_i hne
    rw [if_neg hne] at hc
    rcases hc with ⟨e, _⟩ | ⟨e, _⟩
    · have e : sg.drop j = [62] := e
      exact h (by rw [e]; rfl)
    · exact h e
theorem lit_gtc : (PySem.Str.ofString ">").1.toList = [62] := by decide +kernel
theorem ang_next {w : World} {sg : List Nat} {spot j k c : Nat} {x dx D t t5 tr : Addr} {refs vs vr v5 : List Value} {ta tb : Tok} {g h : Heap} {L : Addr} {news : List (Addr × Obj)} {led : List (Addr × Obj)}
    (hP : AngP sg spot t5 x dx D ⟨j, k, refs, t, vs⟩) (h1 : (sg.drop j).take 1 = [62]) (hr5 : RowIs (endRow (spot + sg.length)) v5) (h5 : (t5, tupObj v5) ∈ news) (n1 : ∀ p ∈ news, p.1 ≠ x) (n2 : ∀ p ∈ news, p.1 ≠ dx) (n3 : ∀ p ∈ news, p.1 ≠ D)
    (hcase : ((sg.drop j) = [62] ∧ ∃ tc', led = hereLed w x dx D refs c (k + 1) ta tb tc' ++ [(tr, tupObj vr)]) ∨
     ((sg.drop j).take 1 = [62] ∧ (sg.drop j) ≠ [62] ∧ ∃ tn vn tc', RowIs (signRow ((sg.drop j).drop 1) (spot + j + 1)) vn ∧ x < tn ∧ dx < tn ∧ D < tn ∧ led = hereLed w x dx D (refs.set k (.ref tn)) c k ta tb tc' ++ [(tn, tupObj vn), (tr, tupObj vr)]))
    (N : News g L h (led ++ ((t, tupObj vs) :: news))) :
    ∃ k2 refs2 t2 vs2 tc2, AngP sg spot t5 x dx D ⟨j + 1, k2, refs2, t2, vs2⟩ ∧ t2 ≠ x ∧ t2 ≠ dx ∧ t2 ≠ D ∧ News g L h ((tr, tupObj vr) :: (hereLed w x dx D refs2 c k2 ta tb tc2 ++ ((t2, tupObj vs2) :: news))) := by
  obtain ⟨p1, p2, p3, p4, p5, p6, p7, p8, p9⟩ := hP
  dsimp only at p1 p2 p3 p4 p5 p6 p7 p8 p9
  have hne : sg.drop j ≠ [] := fun e => by rw [e] at h1; cases h1
  have hk4 := p8 hne
  subst hk4
  have hjl : j < sg.length := by
    rcases Nat.lt_or_ge j sg.length with h | h
    · exact h
    · exact absurd (List.drop_eq_nil_of_le h) hne
  have hdd : sg.drop (j + 1) = (sg.drop j).drop 1 := by rw [List.drop_drop]
  rcases hcase with ⟨e1, tc', rfl⟩ | ⟨_, e2, tn, vn, tc', hvn, l1, l2, l3, rfl⟩
  · have hj1 : j + 1 = sg.length := by
      have := congrArg List.length e1
      rw [List.length_drop] at this
      simp at this; omega
    have hd0 : sg.drop (j + 1) = [] := by rw [hdd, e1]; rfl
    refine ⟨5, refs, t5, v5, tc', ⟨p1, p2, by rw [p1]; exact p2, by show 4 ≤ 5; decide, Nat.le_refl _, ?_, fun _ => rfl, fun h => absurd hd0 h, by show j + 1 ≤ _; omega⟩, n1 _ h5, n2 _ h5, n3 _ h5, fun p hp => N p ?_⟩
    · show RowIs (curRow sg spot (j + 1)) v5
      unfold curRow
      rw [if_pos hd0, hj1]
      exact hr5
    · simp only [List.mem_cons, List.mem_append, List.not_mem_nil, or_false] at hp ⊢
      rcases hp with h | h | h | h
      · simp [h]
      · rcases h with h | h | h <;> simp [h]
      · subst h; simp [h5]
      · simp [h]
  · have hd1 : sg.drop (j + 1) ≠ [] := fun e => e2 (by
      rw [hdd] at e
      cases hh : sg.drop j with
      | nil => exact absurd hh hne
      | cons y r =>
        rw [hh] at e h1
        have : r = [] := e
        subst this
        exact h1)
    refine ⟨4, refs.set 4 (.ref tn), tn, vn, tc', ⟨by rw [List.length_set]; exact p1, ?_, ?_, Nat.le_refl _, by show 4 ≤ 5; decide, ?_, fun h => absurd h hd1, fun _ => rfl, by show j + 1 ≤ _; omega⟩, Nat.ne_of_gt l1, Nat.ne_of_gt l2, Nat.ne_of_gt l3, fun p hp => N p ?_⟩
    · show (refs.set 4 (.ref tn)).getD 5 .none = _
      rw [List.getD, List.getElem?_set_ne (by decide)]; exact p2
    · show (refs.set 4 (.ref tn)).getD (min (4 + 0) ((refs.set 4 (.ref tn)).length - 1)) .none = _
      rw [List.length_set, p1, show min (4 + 0) (6 - 1) = 4 from rfl, List.getD, List.getElem?_set_self (by walk_at "om")]; rfl
    · show RowIs (curRow sg spot (j + 1)) vn
      unfold curRow
      rw [if_neg hd1, hdd]
      exact hvn
    · simp only [List.mem_cons, List.mem_append, List.not_mem_nil, or_false] at hp ⊢
      rcases hp with h | h | h | h
      · simp [h]
      · rcases h with h | h | h <;> simp [h]
      · simp [h]
      · simp [h]
set_option maxHeartbeats 8000000 in
theorem angles_says {w : World} {x dx D t4 t5 : Addr} {refs v4 v5 : List Value} {c : Nat} {ta tb tc tg tsp : Tok} {sg : List Nat} {spot : Nat} (hlen : refs.length = 6) (h4 : refs.getD 4 .none = .ref t4) (h5 : refs.getD 5 .none = .ref t5)
    (hr4 : RowIs (signRow sg spot) v4) (hr5 : RowIs (endRow (spot + sg.length)) v5) (hsg : sg ∈ angles) (ho : dx < x) (ho2 : x < D) :
   SaysC w 14 160 260 [.ref x, .str (S sg) tg, .int spot tsp] (hereLed w x dx D refs c 4 ta tb tc) [(t4, tupObj v4), (t5, tupObj v5)] (fun _ r led => r = .bool true ∧ led = []) := by
  intro loose mean mg mb dp un gd cn cs ac ccd cl outer A₀ base h₀ L m s Q E news B F XB N hro TB D0 hk hd hu hsep hret
  have X := XB.keeps B.stays
  have T := TB.keeps B.stays
  refine wpAny_call ?_
  k_dflt (refine' code_defT ?k1 ?k2 ?k3 ?k4 ?k5 ?kD ?kA ?kF ?kK ?k6 ?k7 ?k8 ?k9 ?kB ?_ ?c2 ?c3 ?c4 ?c5; (case kA => exact rfl); (case kF => exact rfl); (case kK => assumption); (case k1 => exact B); (case k2 => exact F); (case k3 => exact X); (case k4 => exact N); (case k5 => exact T); (case kD => exact D0); (case k6 => k_is); (case k7 => k_is); (case k8 => ktr_room); (case k9 => exact BindsTo.of_eq rfl); (case c5 => decide); (case kB => exact locs rfl); (case c2 => exact rfl); (case c3 => exact rfl); (case c4 => exact rfl); k_whole)
  intro g L' h₁ FG F' N' B' X' T' D'
  refine toks_any ?_
  intro tk0
  replace F' : Fr g L' h₁ (fun y => List.lookup y [(Str.ofString "spot", .int spot tsp), (Str.ofString "text", .str (S sg) tg), (Str.ofString "here", .ref x)]) := F'
  (try dsimp only); (try k_lift B'); (try k_fold)
  clear N F B T X
  have hsgl : sg.length ≤ 3 := angles_len sg hsg
  have n1 : ∀ p ∈ news, p.1 ≠ x := hsep (x, instObj 200 dx) (.head _)
  have n2 : ∀ p ∈ news, p.1 ≠ dx := hsep (dx, hereDict w D 4 ta tb tc) (.tail _ (.head _))
  have n3 : ∀ p ∈ news, p.1 ≠ D := hsep (D, PySem.W.listOf ⟨refs⟩ c) (.tail _ (.tail _ (.head _)))
  k_steps
  refine Hold.go ?_
  (with_reducible rename Fr _ _ _ _ => F1); (with_reducible rename News _ _ _ _ => N1)
  refine wh2 (σ := AngSt × Tok × Tok) (fun c' => hereLed w x dx D c'.1.refs c c'.1.k ta tb c'.2.1 ++ ((c'.1.t, tupObj c'.1.vs) :: news)) (fun c' => [(Str.ofString "many", .int c'.1.j c'.2.2), (Str.ofString "spot", .int spot tsp), (Str.ofString "text", .str (S sg) tg), (Str.ofString "here", .ref x)])
    (fun c' => AngP sg spot t5 x dx D c'.1 ∧ c'.1.t ≠ x ∧ c'.1.t ≠ dx ∧ c'.1.t ≠ D) (fun c' => (AngP sg spot t5 x dx D c'.1 ∧ c'.1.t ≠ x ∧ c'.1.t ≠ dx ∧ c'.1.t ≠ D) ∧ (sg.drop c'.1.j).take 1 ≠ [62]) (fun c' => sg.length - c'.1.j) (⟨0, 4, refs, t4, v4⟩, tc, _) F1 N1 ?sub (allc rfl (allc rfl (allc rfl (all1 rfl)))) ?start ?turn ?done (by passes_own)
  case sub =>
    intro p hp
    rcases List.mem_append.mp hp with hp | hp
    · exact List.mem_append_left _ hp
    · rcases List.mem_cons.mp hp with rfl | hp
      · exact List.mem_append_right _ (hro _ (.head _))
      · exact List.mem_append_right _ hp
  case start =>
    have hne : sg ≠ [] := by intro e; subst e; simp [angles] at hsg
    have h40 := hro _ (.head _)
    refine ⟨⟨hlen, h5, by rw [hlen]; exact h4, Nat.le_refl _, by show 4 ≤ 5; decide, ?_, fun h => absurd h hne, fun _ => rfl, Nat.zero_le _⟩, n1 _ h40, n2 _ h40, n3 _ h40⟩
    show RowIs (curRow sg spot 0) v4
    unfold curRow
    rw [List.drop_zero, if_neg hne]
    exact hr4
  case turn =>
    rintro ⟨⟨j, k, refs1, t, vs⟩, tc1, tm⟩ u h₁ tk₁ ⟨hP, ht1, ht2, ht3⟩ F₁ N₁
    clear F1 N1
    dsimp only at hP ht1 ht2 ht3 F₁ N₁ ⊢
    have hjl := hP.jl
    dsimp only at hjl
    have hsg6 : sg.length ≤ 1000000 := by omega
    (try k_fold)
    k_steps
    · refine Hold.go ?_
      have e1 : List.take 1 (List.drop j sg) = (Str.ofString ">").1.toList := by assumption
      rw [lit_gtc] at e1
      have hne : sg.drop j ≠ [] := fun e => by rw [e] at e1; cases e1
      have hrow := hP.row
      unfold curRow at hrow
      dsimp only at hrow
      rw [if_neg hne] at hrow
      have hk4 := hP.iff2 hne
      have hl6 := hP.len
      have hhere := hP.here
      dsimp only at hk4 hl6 hhere
      (with_reducible rename Fr _ _ _ _ => F1); (with_reducible rename News _ _ _ _ => N1)
      refine wpAny_call (split_says (t := t) (refs := refs1) (vs := vs) (k := k) (row := signRow (sg.drop j) (spot + j)) (by walk_at "om") (by walk_at "om") ho ho2 (by walk_at "om") hhere hrow (by show (sg.drop j).length ≤ 1000; rw [List.length_drop]; omega) B' F1 X' N1 (all1 (.head _)) T' rfl (by first | ktr_room | omega) (by first | ktr_units | omega) (here_sep ht1 ht2 ht3 n1 n2 n3) ?_ ?_)
      · rintro r9 led9 h9 tk9 ⟨tr, vr, rfl, hvr, _, hcase⟩ F9 N9
        obtain ⟨k2, refs2, t2, vs2, tc2, hP2, a1, a2, a3, N8⟩ := ang_next hP e1 hr5 (hro _ (.tail _ (.head _))) n1 n2 n3 hcase N9
        clear N9
        dsimp only [List.cons_append, List.nil_append] at N8
        k_steps
        refine Hold.go ?_
        (with_reducible rename Fr _ _ _ _ => F2); (with_reducible rename News _ _ _ _ => N2)
        refine data_ne (d := rowData (signRow [62] (spot + j))) (reads_row (N2 (tr, tupObj vr) (.tail _ (.head _))).1 hvr) (reads_row (vs := [_, _, _, _, _]) (N2 _ (.head _)).1 ⟨_, _, _, 0, 0, by rw [lit_sign, lit_gtS]; rfl⟩) (rowData_shaped _ sign_short) (by first | ktr_units | omega) ?_
        k_steps
        rename Fr _ _ _ _ => F3
        rename News _ _ _ _ => N3
        exact WEnd.intro (⟨j + 1, k2, refs2, t2, vs2⟩, tc2, _) F3 N3 (sub_skip (sub_skip sub_self)) (allc rfl (allc rfl (allc rfl (all1 rfl)))) ⟨hP2, a1, a2, a3⟩ (by
          have : sg.length - j ≠ 0 := by
            intro e
            exact hne (List.drop_eq_nil_of_le (by walk_at "om"))
          show sg.length - (j + 1) < sg.length - j; omega)
      · rintro C sp e9 G h9 tk9 ⟨_, _, h | h⟩ F9 R9 sm9
        · exact absurd rfl h
        · exact absurd e1 h
    · have e1 : ¬ List.take 1 (List.drop j sg) = (Str.ofString ">").1.toList := by assumption
      rw [lit_gtc] at e1
      rename Fr _ _ _ _ => F3
      rename News _ _ _ _ => N3
      exact WOut.intro (⟨j, k, refs1, t, vs⟩, tc1, tm) F3 N3 sub_self (allc rfl (allc rfl (allc rfl (all1 rfl)))) ⟨⟨hP, ht1, ht2, ht3⟩, e1⟩
  case done =>
    rintro ⟨⟨j, k, refs1, t, vs⟩, tc1, tm⟩ u h₁ tk₁ ⟨⟨hP, ht1, ht2, ht3⟩, hn1⟩ F₁ N₁
    clear F1 N1
    dsimp only [List.cons_append, List.nil_append] at hP ht1 ht2 ht3 hn1 F₁ N₁ ⊢
    have hjl := hP.jl
    have hl6 := hP.len
    have hk5 := hP.k2
    have hhere := hP.here
    have hrow := hP.row
    dsimp only at hjl hl6 hk5 hhere hrow
    have hsg6 : sg.length ≤ 1000000 := by omega
    (try k_fold)
    k_steps
    · refine Hold.go ?_
      have e1 : List.drop j sg = (Str.ofString "").1.toList := by assumption
      rw [lit_nil] at e1
      have hdue0 : ∀ (vd : List Value), (∃ t1 t2 t3 t4 t5, vd = [.str (Str.ofString "end") t1, .str (Str.ofString "") t2, .int ((spot : Int) + (j : Int)) t3, optInt none t4, optStr none t5]) → RowIs (curRow sg spot j) vd := by
        rintro vd ⟨t1, t2, t3, t4, t5, rfl⟩
        unfold curRow
        rw [if_pos e1, lit_end, lit_empty]
        exact ⟨_, _, _, t4, t5, rfl⟩
      (with_reducible rename Fr _ _ _ _ => F1); (with_reducible rename News _ _ _ _ => N1)
      have hdue : ∀ (vd : List Value), (∃ t1 t2 t3 t4 t5, vd = [.str (Str.ofString "end") t1, .str (Str.ofString "") t2, .int ((spot : Int) + (j : Int)) t3, optInt none t4, optStr none t5]) → RowIs (curRow sg spot j) vd := fun vd h => hdue0 vd h
      show wpAny _ _ (call (Value.ref 161) [.ref x]) _ _ _
      refine peek_says (tt := 0) (.inl ⟨rfl, rfl⟩) (by walk_at "om") (by walk_at "om") ho ho2 B' F1 X' (move_1 N1) T' rfl (by first | ktr_room | omega) (by first | ktr_units | omega) (here_sep (neN (by walk_at "ad")) (neN (by walk_at "ad")) (neN (by walk_at "ad")) (cons_ne ht1 n1) (cons_ne ht2 n2) (cons_ne ht3 n3)) ?_
      rintro r9 led9 h9 tk9 ⟨rfl, rfl⟩ F9 N9
      rw [hhere]
      dsimp only [List.cons_append, List.nil_append] at N9
      clear N1
      k_steps
      refine Hold.go ?_
      (with_reducible rename Fr _ _ _ _ => F2); (with_reducible rename News _ _ _ _ => N2)
      refine data_eq (d := rowData (curRow sg spot j)) (reads_row (N2 (t, tupObj vs) (.tail _ (.tail _ (.tail _ (.tail _ (.head _)))))).1 hrow) (reads_row (vs := [_, _, _, _, _]) (N2 _ (.tail _ (.tail _ (.tail _ (.head _))))).1 (hdue _ ⟨_, _, _, 0, 0, rfl⟩)) (rowData_shaped _ (cur_short hsg)) (by first | ktr_units | omega) ?_
      k_steps
      refine Hold.go ?_
      (with_reducible rename Fr _ _ _ _ => F3); (with_reducible rename News _ _ _ _ => N3)
      refine law_fault_says (meth_says (split_says (w := w) (x := x) (dx := dx) (D := D) (t := t) (refs := refs1) (vs := vs) (c := c) (k := k) (ta := ta) (tb := tb) (tc := tc1) (row := curRow sg spot j) (by walk_at "om") (by walk_at "om") ho ho2 (by walk_at "om") hhere hrow (cur_len hsg))) (fun C sp h => .inr h.1) (fun h X9 hm => meth_keeps (fun _ => fnSplit) h X9 (hm _ (.head _))) B' F3 XB (move_1m N3) (ro_two) TB D' rfl (by first | ktr_room | omega) (by first | ktr_units | omega) (here_sep (neN (by walk_at "ad")) (neN (by walk_at "ad")) (neN (by walk_at "ad")) (cons_ne (neN (by walk_at "ad")) (cons_ne ht1 n1)) (cons_ne (neN (by walk_at "ad")) (cons_ne ht2 n2)) (cons_ne (neN (by walk_at "ad")) (cons_ne ht3 n3))) ?_
      rintro r9 led9 g2 h9 tk9 hO T2 F9 N9 B2 D2
      rcases hO with ⟨_, rv, hso⟩ | ⟨C, sp, ts9, ⟨_, hsp, _⟩, rfl, rfl⟩
      · exact (cur_no hn1 hso).elim
      have hspE : sp = spot + j := by rw [hsp]; unfold curRow; split <;> rfl
      subst hspE
      have X2 := XB.keeps B2.stays
      have T2' := TB.keeps B2.stays
      clear B' X' T' D' F3 N3
      dsimp only [List.cons_append, List.nil_append] at N9 ⊢
      k_steps
      · refine Hold.go ?_
        (with_reducible rename Fr _ _ _ _ => F5); (with_reducible rename News _ _ _ _ => N5)
        show wpAny _ _ (call (Value.ref 161) [.ref x]) _ _ _
        refine peek_says (tt := 0) (.inl ⟨rfl, rfl⟩) (by walk_at "om") (by walk_at "om") ho ho2 B2 F5 X2 N5 T2' rfl (by first | ktr_room | omega) (by first | ktr_units | omega) (here_sep (neN (by walk_at "ad")) (neN (by walk_at "ad")) (neN (by walk_at "ad")) (cons_ne (neN (by walk_at "ad")) (cons_ne ht1 n1)) (cons_ne (neN (by walk_at "ad")) (cons_ne ht2 n2)) (cons_ne (neN (by walk_at "ad")) (cons_ne ht3 n3))) ?_
        rintro r9 led9 h9 tk9 ⟨rfl, rfl⟩ F9 N9
        rw [hhere]
        dsimp only [List.cons_append, List.nil_append] at N9
        clear N5
        k_steps
        refine Hold.go ?_
        (with_reducible rename Fr _ _ _ _ => F6); (with_reducible rename News _ _ _ _ => N6)
        refine data_eq (d := rowData (curRow sg spot j)) (reads_row (N6 (t, tupObj vs) (.tail _ (.tail _ (.tail _ (.tail _ (.tail _ (.head _))))))).1 hrow) (reads_row (vs := [_, _, _, _, _]) (N6 _ (.tail _ (.tail _ (.tail _ (.tail _ (.head _)))))).1 (hdue _ ⟨_, _, _, 0, 0, rfl⟩)) (rowData_shaped _ (cur_short hsg)) (by first | ktr_units | omega) ?_
        k_steps
        rename Fr _ _ _ _ => F7
        rename News _ _ _ _ => N7
        exact ⟨g2, L', _, news, T2, F7, sub_drop N7 (sub_skip (sub_skip (sub_skip (sub_skip (sub_skip (sub_skip sub_self)))))), fun h₀' T1 F1 N1 B1 D1 => hret _ [] _ _ _ ⟨rfl, rfl⟩ T1 F1 N1 B1 D1⟩
      · exfalso
        omega
    · refine Hold.go ?_
      have e1 : ¬ List.drop j sg = (Str.ofString "").1.toList := by assumption
      rw [lit_nil] at e1
      have hdue0 : ∀ (vd : List Value), (∃ t1 t2 t3 t4 t5, vd = [.str (Str.ofString "sign") t1, .str (S (List.drop j sg)) t2, .int ((spot : Int) + (j : Int)) t3, optInt none t4, optStr none t5]) → RowIs (curRow sg spot j) vd := by
        rintro vd ⟨t1, t2, t3, t4, t5, rfl⟩
        unfold curRow
        rw [if_neg e1, lit_sign]
        exact ⟨_, _, _, t4, t5, rfl⟩
      (with_reducible rename Fr _ _ _ _ => F1); (with_reducible rename News _ _ _ _ => N1)
      have hdue : ∀ (vd : List Value), (∃ t1 t2 t3 t4 t5, vd = [.str (Str.ofString "sign") t1, .str (S (List.drop j sg)) t2, .int ((spot : Int) + (j : Int)) t3, optInt none t4, optStr none t5]) → RowIs (curRow sg spot j) vd := fun vd h => hdue0 vd h
      show wpAny _ _ (call (Value.ref 161) [.ref x]) _ _ _
      refine peek_says (tt := 0) (.inl ⟨rfl, rfl⟩) (by walk_at "om") (by walk_at "om") ho ho2 B' F1 X' (move_1 N1) T' rfl (by first | ktr_room | omega) (by first | ktr_units | omega) (here_sep (neN (by walk_at "ad")) (neN (by walk_at "ad")) (neN (by walk_at "ad")) (cons_ne ht1 n1) (cons_ne ht2 n2) (cons_ne ht3 n3)) ?_
      rintro r9 led9 h9 tk9 ⟨rfl, rfl⟩ F9 N9
      rw [hhere]
      dsimp only [List.cons_append, List.nil_append] at N9
      clear N1
      k_steps
      refine Hold.go ?_
      (with_reducible rename Fr _ _ _ _ => F2); (with_reducible rename News _ _ _ _ => N2)
      refine data_eq (d := rowData (curRow sg spot j)) (reads_row (N2 (t, tupObj vs) (.tail _ (.tail _ (.tail _ (.tail _ (.head _)))))).1 hrow) (reads_row (vs := [_, _, _, _, _]) (N2 _ (.tail _ (.tail _ (.tail _ (.head _))))).1 (hdue _ ⟨_, _, _, 0, 0, rfl⟩)) (rowData_shaped _ (cur_short hsg)) (by first | ktr_units | omega) ?_
      k_steps
      refine Hold.go ?_
      (with_reducible rename Fr _ _ _ _ => F3); (with_reducible rename News _ _ _ _ => N3)
      refine law_fault_says (meth_says (split_says (w := w) (x := x) (dx := dx) (D := D) (t := t) (refs := refs1) (vs := vs) (c := c) (k := k) (ta := ta) (tb := tb) (tc := tc1) (row := curRow sg spot j) (by walk_at "om") (by walk_at "om") ho ho2 (by walk_at "om") hhere hrow (cur_len hsg))) (fun C sp h => .inr h.1) (fun h X9 hm => meth_keeps (fun _ => fnSplit) h X9 (hm _ (.head _))) B' F3 XB (move_1m N3) (ro_two) TB D' rfl (by first | ktr_room | omega) (by first | ktr_units | omega) (here_sep (neN (by walk_at "ad")) (neN (by walk_at "ad")) (neN (by walk_at "ad")) (cons_ne (neN (by walk_at "ad")) (cons_ne ht1 n1)) (cons_ne (neN (by walk_at "ad")) (cons_ne ht2 n2)) (cons_ne (neN (by walk_at "ad")) (cons_ne ht3 n3))) ?_
      rintro r9 led9 g2 h9 tk9 hO T2 F9 N9 B2 D2
      rcases hO with ⟨_, rv, hso⟩ | ⟨C, sp, ts9, ⟨_, hsp, _⟩, rfl, rfl⟩
      · exact (cur_no hn1 hso).elim
      have hspE : sp = spot + j := by rw [hsp]; unfold curRow; split <;> rfl
      subst hspE
      have X2 := XB.keeps B2.stays
      have T2' := TB.keeps B2.stays
      clear B' X' T' D' F3 N3
      dsimp only [List.cons_append, List.nil_append] at N9 ⊢
      k_steps
      · refine Hold.go ?_
        (with_reducible rename Fr _ _ _ _ => F5); (with_reducible rename News _ _ _ _ => N5)
        show wpAny _ _ (call (Value.ref 161) [.ref x]) _ _ _
        refine peek_says (tt := 0) (.inl ⟨rfl, rfl⟩) (by walk_at "om") (by walk_at "om") ho ho2 B2 F5 X2 N5 T2' rfl (by first | ktr_room | omega) (by first | ktr_units | omega) (here_sep (neN (by walk_at "ad")) (neN (by walk_at "ad")) (neN (by walk_at "ad")) (cons_ne (neN (by walk_at "ad")) (cons_ne ht1 n1)) (cons_ne (neN (by walk_at "ad")) (cons_ne ht2 n2)) (cons_ne (neN (by walk_at "ad")) (cons_ne ht3 n3))) ?_
        rintro r9 led9 h9 tk9 ⟨rfl, rfl⟩ F9 N9
        rw [hhere]
        dsimp only [List.cons_append, List.nil_append] at N9
        clear N5
        k_steps
        refine Hold.go ?_
        (with_reducible rename Fr _ _ _ _ => F6); (with_reducible rename News _ _ _ _ => N6)
        refine data_eq (d := rowData (curRow sg spot j)) (reads_row (N6 (t, tupObj vs) (.tail _ (.tail _ (.tail _ (.tail _ (.tail _ (.head _))))))).1 hrow) (reads_row (vs := [_, _, _, _, _]) (N6 _ (.tail _ (.tail _ (.tail _ (.tail _ (.head _)))))).1 (hdue _ ⟨_, _, _, 0, 0, rfl⟩)) (rowData_shaped _ (cur_short hsg)) (by first | ktr_units | omega) ?_
        k_steps
        rename Fr _ _ _ _ => F7
        rename News _ _ _ _ => N7
        exact ⟨g2, L', _, news, T2, F7, sub_drop N7 (sub_skip (sub_skip (sub_skip (sub_skip (sub_skip (sub_skip sub_self)))))), fun h₀' T1 F1 N1 B1 D1 => hret _ [] _ _ _ ⟨rfl, rfl⟩ T1 F1 N1 B1 D1⟩
      · exfalso
        omega
end
section
section
variable {prog : Program} {w : World} {A₀ A : Around} {s : Shared} {base h₀ : Heap} {outer : List Env} {env : Env} {L : Addr} {m : Str → Option Value} {news : List (Addr × Obj)} {K : Frag} {p : Program} {loose : List Str} {mean : ExcName → Option Value} {mg mb : Str → Option Value}
    {R : Result → Shared → Prop} {name qual : Str} {params : Arguments} {body : List Stmt} {scope : Scope} {dV kV doc pm cdv ct oc : Value} {an od : Option Addr} {osl : Array (Option Value)} {f : Addr} {args : Args} {binds : List (Str × Value)}
theorem groundT (B : Below A₀ base outer h₀) (F : Fr h₀ L s.heap m) (N : News h₀ L s.heap news) (D : KtsDicts (outer.filterMap (·.frame)) h₀) (hA : A.frames = some (env :: outer)) (hf : env.frame = some L) (hke : env.scope.kind = .function) :
    Fr h₀ L (hideAll s.heap (news.map (·.1))) m ∧ Below A base (env :: outer) (hideAll s.heap (news.map (·.1))) ∧ h₀.StaysIn (hideAll s.heap (news.map (·.1))) ∧ KtsDicts ((env :: outer).filterMap (·.frame)) (hideAll s.heap (news.map (·.1))) ∧
      ∀ v s', LeaveT env A₀ base outer h₀ L m (hideAll s.heap (news.map (·.1))) R v s' → R (.ok (.ret v)) s' := by
  have nm : ∀ b o, h₀.get? b = some o → b ∉ news.map (·.1) := fun b o e q => by
    obtain ⟨p, hp, rfl⟩ := List.mem_map.mp q
    rw [(N p hp).2.2] at e; cases e
  have st : h₀.StaysIn (hideAll s.heap (news.map (·.1))) := fun b o e => hideAll_get _ (F.keep b o e) (nm b o e)
  obtain ⟨oL, es, ep, hL, hLd, hLk, hLf⟩ := F.ns
  have nL : L ∉ news.map (·.1) := fun q => by
    obtain ⟨p, hp, e⟩ := List.mem_map.mp q
    exact (N p hp).2.1 e
  have hLg := hideAll_get (news.map (·.1)) hL nL
  have nLb : base.get? L = none := fresh_of_stays B.stays (kts_self F)
  have hN : ∀ h', h'.get? L = some oL → Heap.Ns h' L m := fun h' e => ⟨oL, es, ep, e, hLd, hLk, hLf⟩
  have hNs : ∀ (sl : Array (Option Value)) h', h'.get? L = some { oL with slots := sl } → Heap.Ns h' L m := fun sl h' e => ⟨_, es, ep, e, hLd, hLk, hLf⟩
  have B₂ : Below A base (env :: outer) (hideAll s.heap (news.map (·.1))) :=
    ⟨hA, fun b o e => st b o (B.stays b o e), Heap.FunFrames.cons (by rw [hke]; decide) hf (hN _ hLg) nLb (B.frames.of_keeps fun b o hb _ => ⟨o, st b o hb, rfl⟩)⟩
  refine ⟨⟨hN _ hLg, st, F.above⟩, B₂, st, fun b hb => ?_, fun v s' hl => ?_⟩
  · rcases env_mem hf hb with rfl | hb
    · exact ⟨oL, es, ep, hLg, hLd⟩
    · obtain ⟨o, es', n', ho', hd'⟩ := D b hb
      exact ⟨o, es', n', st b o ho', hd'⟩
  have nL₀ : h₀.get? L = none := kts_self F
  obtain ⟨g', L', m', news', T', F', N', k⟩ := hl
  obtain ⟨sl, hs⟩ := T'.up hLg
  obtain ⟨T₁, S₁⟩ := kts_turn_at (h := s'.heap) (fs := outer.filterMap (·.frame)) (g := h₀)
    (fun b hb => by
      obtain ⟨_, o, ho', _⟩ := B.frames.mem hb
      exact ⟨o, ho'⟩)
    (fun b o e nmem => F'.keep b o (T'.other b o (st b o e) (fun q => by
      rcases env_mem hf q with z | z
      · rw [z, nL₀] at e
        cases e
      · exact nmem z)))
    (fun b o e hm => by
      obtain ⟨sl', hs'⟩ := T'.up (st b o e)
      exact ⟨sl', F'.keep _ _ hs'⟩)
  have B₃ : Below A₀ base outer (ktsHeap s'.heap (outer.filterMap (·.frame)) h₀) := ⟨B.stack, fun b o e => T₁.other b o (B.stays b o e) (fun hm => by
    rw [(B.frames.mem hm).1] at e
    cases e), B.frames.of_keeps fun b o e _ => by
    obtain ⟨sl', hs'⟩ := T₁.up e
    exact ⟨_, hs', rfl⟩⟩
  refine k _ T₁ ⟨hNs sl _ (F'.keep _ _ hs), S₁, by rw [T₁.size]; exact F.above⟩ (fun p hp => ⟨(N' p hp).1, fun q => ?_, ?_⟩) B₃ (D.turn T₁)
  · have := (N' p hp).2.2; rw [q, hs] at this; cases this
  · refine T₁.none_ _ ?_
    cases q : h₀.get? p.1 with
    | none => rfl
    | some o =>
      obtain ⟨sl', hs'⟩ := T'.up (st _ _ q)
      have := (N' p hp).2.2
      rw [hs'] at this
      cases this
theorem code_defTC (B : Below A₀ base outer h₀) (F : Fr h₀ L s.heap m) (X₀ : K.In h₀) (N : News h₀ L s.heap news) (T : Top p loose mean mg mb h₀) (D : KtsDicts (outer.filterMap (·.frame)) h₀) (hA : A.frames = some (env :: outer)) (hf : env.frame = some L) (hke : env.scope.kind = .function)
    (ho : K.lookup f = some ⟨oc, od, .func (fnOf name qual params body scope dV kV doc pm an cdv ct), osl⟩) (hcd : codeIn K cdv qual = true) (hroom : A.depth < recursionLimit)
    (hbind : BindsTo s (fnOf name qual params body scope dV kV doc pm an cdv ct) args binds) (hkind : (binds.all fun y => scope.names.lookup y.1 == some .local || scope.names.lookup y.1 == some .cell) = true)
    (hnd : ((cellsFrom 0 scope.names []).map (·.1)).Nodup)
    (h : ∀ g L' h₁ tk cells, Fr h₀ L g m → Fr g L' h₁ (bindL (envOfC qual scope L' f cdv).kindOf binds fun _ => none) → News g L' h₁ (cells ++ news) →
      CellsAre (bindC (envOfC qual scope L' f cdv).kindOf binds fun _ => none) (cellsFrom (L' + 1) scope.names []) cells → Below A base (env :: outer) g → K.In g → Top p loose mean mg mb g → KtsDicts ((env :: outer).filterMap (·.frame)) g → (∀ p ∈ news, p.1 < L') →
      wpAny (model prog w) (A.deeper (envOfC qual scope L' f cdv)) (execs body (envOfC qual scope L' f cdv))
        (fun fl s' => LeaveT env A₀ base outer h₀ L m g R (match fl with | .ret v => v | _ => .none) s')
        (fun e s' => wpAny (model prog w) (A.deeper (envOfC qual scope L' f cdv)) (leaving (envOfC qual scope L' f cdv) e) (fun _ s'' => R (.error e) s'') (fun e' s'' => R (.error e') s'') s')
        { s with heap := h₁, toks := tk })
    (hco : scope.isCoroutine = false) (hgen : scope.isGenerator = false) (hk : scope.kind = .function) : codeAny (model prog w) A (.call (.ref f) args) R s := by
  obtain ⟨FG, BG, st, DG, lv⟩ := groundT (R := R) B F N D hA hf hke
  refine codeAny_call_function hroom ((X₀.keeps F.keep) _ _ ho) rfl hco hgen rfl (codeRec_of (X₀.keeps F.keep) hcd) (hbind _ _ _ _ ?_)
  refine wpAny_newFunctionEnv_cells hk (kindsX hkind _) fun env' he s' x => ?_
  subst he
  refine ⟨(T.nolimit.keeps F.keep).keeps x.toInCall.keep, codeAny_func ?_⟩
  obtain ⟨h₁, tk, rfl, _⟩ := x.done
  have hk₁ := x.toInCall.keep
  obtain ⟨cells, NC, Y⟩ := Cl.news (h₀ := s.heap) (Nat.le_refl _) fun n c hm => ⟨x.cell n c (lookup_of_mem_nodup (cellsFrom_names scope.names 0 (s.heap.objs.size + 1) [] [] rfl ▸ hnd) hm), x.above n c hm⟩
  refine wpAny_mono (h _ s.heap.objs.size h₁ tk cells FG ⟨x.toInCall.ns, fun b o e => hk₁ b o (of_hideAll _ e), Nat.le_of_eq (hideAll_size _ _)⟩ (fun p hp => ?_) Y BG (X₀.keeps st) (T.keeps st) DG (fun p hp => Heap.lt_size (N p hp).1)) (fun fl s' hl => lv _ _ hl) fun _ _ y => y
  rcases List.mem_append.mp hp with hp | hp
  · refine ⟨(NC p hp).1, (NC p hp).2.1, ?_⟩
    cases q : (hideAll s.heap (news.map (·.1))).get? p.1 with
    | none => rfl
    | some o => have := of_hideAll _ q; rw [(NC p hp).2.2] at this; cases this
  · exact ⟨hk₁ _ _ (N p hp).1, Nat.ne_of_lt (Heap.lt_size (N p hp).1), hideAll_none _ (List.mem_map_of_mem hp)⟩
end
end
section
open PySem.Builtin
/-- a for: `ps` tells every name that is asked later, `led` the ledger (its addresses stood before the loop) -/
theorem fr_at2 {prog : Program} {w : World} {A : Around} {E : Value → Shared → Prop} {Q : Flow → Shared → Prop} {s : Shared} {env : Env} {h₀ : Heap} {x : PySem.Str} {body : List Stmt}
    {σ : Type} {I : Addr} {fp : List Addr} {n : Nat} {Pv : Nat → Value → Prop} {St : Nat → Heap → Prop} {m₀ : PySem.Str → Option Value} {news₀ : List (Addr × Obj)}
    (led : Nat → σ → List (Addr × Obj)) (ps : Nat → σ → List (PySem.Str × Value)) (P : Nat → σ → Prop) (c₀ : σ)
    (W : Walks prog w A I fp [I] n Pv St) (hI : h₀.get? I = none) (hfp : ∀ b ∈ fp, b = I ∨ ∃ o, h₀.get? b = some o) (hLf : env.locals ∉ fp) (hst : St 0 s.heap)
    (F : Fr h₀ env.locals s.heap m₀) (N : News h₀ env.locals s.heap news₀) (hnI : ∀ p ∈ news₀, p.1 ≠ I) (hn : ∀ p ∈ led 0 c₀, p ∈ news₀) (hk : ∀ p ∈ ps 0 c₀, m₀ p.1 = some p.2) (hp : P 0 c₀)
    (hsub : ∀ i c, P i c → ∀ p ∈ led i c, p.1 ≠ I) (hStI : ∀ i h, St i h → ∃ o, h.get? I = some o) (hIfp : I ∈ fp) (hx : ∀ i c, ∀ p ∈ ps i c, p.1 ≠ x)
    (turn : ∀ i v (c : σ) own u h tk, i < n → Pv i v → P i c → Fr h₀ env.locals h (put ((x, v) :: ps i c) u) → News h₀ env.locals h (led i c ++ own) → (∀ p ∈ led i c, ∀ q ∈ own, q.1 ≠ p.1) → (∃ o, (I, o) ∈ own) →
      wpAny (model prog w) A (execs body env) (FPost h₀ env.locals s (fun own c => led (i + 1) c ++ own) (ps (i + 1)) (P (i + 1)) own Q) E { s with heap := h, toks := tk })
    (done : ∀ (c : σ) u h tk, P n c → Fr h₀ env.locals h (put (ps n c) u) → News h₀ env.locals h (led n c) → Q .next { s with heap := h, toks := tk }) :
    LoopAtV prog w A h₀ env x body Q E (.ref I) s := by
  refine ⟨I, fp, [I], n, Pv, St, m₀, led 0 c₀, fun i m nx => ∃ c, nx = led i c ∧ (∀ p ∈ ps i c, m p.1 = some p.2) ∧ P i c, rfl, W, hLf, fun b hb => by rw [List.mem_singleton.mp hb]; exact hI,
    fun p hp hm => hnI p (hn p hp) (List.mem_singleton.mp hm), hst, F, fun p hp => N p (hn p hp), ⟨c₀, rfl, hk, hp⟩, ?_, ?_⟩
  · rintro i v m₁ nx s₁ own ⟨h, tk, rfl⟩ hi hP ⟨c, rfl, hm, hpc⟩ hoff hown hat hmem hst₁ F₁ N₁
    have e : (fun y => if y = x then some v else m₁ y) = put ((x, v) :: ps i c) m₁ := put_ext (m := m₁) (fun p hp => by
      rcases List.mem_cons.mp hp with rfl | hp
      · exact if_pos rfl
      · rw [if_neg (hx i c p hp)]
        exact hm p hp) fun y hy => if_neg (hy _ (.head _))
    rw [e] at F₁
    refine wpAny_mono (turn i v c own m₁ h tk hi hP hpc F₁ (fun p hp => N₁ p (List.mem_append.mpr (List.mem_append.mp hp).symm)) (fun p hp q hq z => ?_) (by
      obtain ⟨o, hoI⟩ := hStI _ _ hst₁
      exact ⟨o, hmem I hIfp hI o hoI⟩)) (fun f s₃ q => ?_) fun _ _ y => y
    · have h1 := hown q hq
      rcases hfp _ h1 with h2 | ⟨o, h2⟩
      · exact hoff p hp (by rw [← z, h2]; exact .head _)
      · have := (N₁ q (List.mem_append_left _ hq)).2.2
        rw [h2] at this; cases this
    · have key : FEnd h₀ env.locals s (fun own c => led (i + 1) c ++ own) (ps (i + 1)) (P (i + 1)) own s₃ → LoopStepU h₀ env.locals [I] own (fun m nx => ∃ c, nx = led (i + 1) c ∧ (∀ p ∈ ps (i + 1) c, m p.1 = some p.2) ∧ P (i + 1) c) { s with heap := h, toks := tk } .next s₃ := by
        rintro ⟨c', h', tk', m', news', rfl, F', N', hn', hm', hp'⟩
        refine ⟨rfl, h', tk', m', led (i + 1) c', rfl, F', fun p hp => N' p (hn' p (List.mem_append.mpr (List.mem_append.mp hp).symm)), fun p hp hm => ?_, c', rfl, hm', hp'⟩
        exact hsub _ _ hp' p hp (List.mem_singleton.mp hm)
      cases f with
      | ret v => exact q
      | brk => exact q
      | next => exact key q
      | cont => exact key q
  · rintro h' tk m' nx F' N' _ ⟨c, rfl, hm, hpc⟩
    rw [← put_same hm] at F'
    exact done c m' h' tk hpc F' N'
/-- over a range -/
theorem fr_range2 {prog : Program} {w : World} {A : Around} {E : Value → Shared → Prop} {Q : Flow → Shared → Prop} {s : Shared} {env : Env} {h₀ : Heap} {x : PySem.Str} {body : List Stmt}
    {σ : Type} {r : Addr} {n : Nat} {t₀ u₀ v₀ : Tok} {m₀ : PySem.Str → Option Value} {news₀ : List (Addr × Obj)}
    (led : Nat → σ → List (Addr × Obj)) (ps : Nat → σ → List (PySem.Str × Value)) (P : Nat → σ → Prop) (c₀ : σ)
    (hh : A.handled = none) (hr : IsRange s.heap r 0 n 1 t₀ u₀ v₀) (hsmall : Builtin.Range.small 0 n 1 = true)
    (F : Fr h₀ env.locals s.heap m₀) (N : News h₀ env.locals s.heap news₀) (hn : ∀ p ∈ led 0 c₀, p ∈ news₀) (hk : ∀ p ∈ ps 0 c₀, m₀ p.1 = some p.2) (hp : P 0 c₀)
    (hsub : ∀ i c, P i c → ∀ p ∈ led i c, p.1 ≠ s.heap.objs.size) (hx : ∀ i c, ∀ p ∈ ps i c, p.1 ≠ x)
    (turn : ∀ i t (c : σ) own u h tk, i < n → P i c → Fr h₀ env.locals h (put ((x, .int (i : Nat) t) :: ps i c) u) → News h₀ env.locals h (led i c ++ own) → (∀ p ∈ led i c, ∀ q ∈ own, q.1 ≠ p.1) → (∃ o, (s.heap.objs.size, o) ∈ own) →
      wpAny (model prog w) A (execs body env) (FPost h₀ env.locals s (fun own c => led (i + 1) c ++ own) (ps (i + 1)) (P (i + 1)) own Q) E { s with heap := h, toks := tk })
    (done : ∀ (c : σ) u h tk, P n c → Fr h₀ env.locals h (put (ps n c) u) → News h₀ env.locals h (led n c) → Q .next { s with heap := h, toks := tk }) :
    wpAny (model prog w) A (pyIter (.ref r)) (fun it s₂ => LoopAtV prog w A h₀ env x body Q E it s₂) E s := by
  refine wpAny_pyIter_range hr hsmall ?_
  have W : Walks prog w A s.heap.objs.size [s.heap.objs.size] [s.heap.objs.size] n (fun i v => i < n ∧ ∃ t, v = .int ((0 : Int) + i * 1) t)
      (fun i h => IsRangeIter h s.heap.objs.size ((0 : Int) + (i : Nat) * 1) ((n : Int) - (i : Nat)) 1) := (Walks.range hh _ 0 1 n).bound
  refine fr_at2 (m₀ := m₀) (news₀ := news₀) led ps P c₀ W (next_is_new F) (fun b hb => .inl (List.mem_singleton.mp hb)) (fun hm => absurd F.ns.lt ((List.mem_singleton.mp hm) ▸ Nat.lt_irrefl _))
    ?_ (F.push _) (fun p hp => ⟨Heap.get?_push_of_some _ (N p hp).1, (N p hp).2⟩) (fun p hp => Nat.ne_of_lt (Heap.lt_size (N p hp).1)) hn hk hp hsub (fun i h hst => ⟨_, hst⟩) (.head _) hx ?_ ?_
  · show IsRangeIter _ _ _ _ _
    have : Builtin.Range.rangeSize 0 n 1 = (n : Int) := by unfold Builtin.Range.rangeSize; simp; omega
    rw [this]; simpa using Heap.get?_push_size _ rfl
  · rintro i v c own u h tk hi ⟨_, t, rfl⟩ hpc F₁ N₁ hs hown
    refine turn i t c own u h tk hi hpc ?_ N₁ hs hown
    simpa using F₁
  · exact done
end
section
def numRow (told : List Nat) (at_ number : Nat) (kd : List Nat) : Row := ⟨codes "int", told, at_, some number, if kd = [] then none else some kd⟩
/-- a text that is built, with the rows that are due -/
inductive Built : Nat → List Nat → List Row → Prop
  | start {t0 : List Nat} : t0 ∈ [[], [32], [13]] → Built 0 t0 []
  | more {i : Nat} {text : List Nat} {rows : List Row} {ah figs kd gp : List Nat} {bs number many lead : Nat} : Built i text rows → NumIs ah figs kd bs number many lead → many ≤ 40 → gp ∈ gaps →
      Built (i + 1) (text ++ (ah ++ figs ++ kd) ++ gp) (rows ++ [numRow (ah ++ figs ++ kd) text.length number kd])
theorem NumIs.len {ah figs kd : List Nat} {bs number many lead : Nat} (h : NumIs ah figs kd bs number many lead) : (ah ++ figs ++ kd).length ≤ 89 := by
  have h1 := bases_len _ h.base
  have h2 := h.figs_.len
  have h3 := kinds_len _ h.kind
  have h4 := h.m2
  dsimp only at h1
  rw [List.length_append, List.length_append]
  omega
theorem gaps_len : ∀ gp ∈ gaps, gp.length ≤ 9 := by decide
theorem Built.len {i : Nat} {text : List Nat} {rows : List Row} (h : Built i text rows) : text.length ≤ 1 + 98 * i := by
  induction h with
  | start h => 
    rename_i t0
    have : ∀ t ∈ ([[], [32], [13]] : List (List Nat)), t.length ≤ 1 := by decide
    exact this _ h
  | more _ hn _ hg ih =>
    have h1 := hn.len
    have h2 := gaps_len _ hg
    rw [List.length_append, List.length_append]
    omega
theorem Built.rows_len {i : Nat} {text : List Nat} {rows : List Row} (h : Built i text rows) : rows.length = i := by
  induction h with
  | start => rfl
  | more _ _ _ _ ih => rw [List.length_append, ih]; rfl
/-- what may follow a gap -/
def Stop (rest : List Nat) : Prop := ∀ c r, rest = c :: r → c ∉ blanks ∧ c ≠ 47
theorem drop_getD {text rest : List Nat} {c i : Nat} (h : text.drop i = c :: rest) : i < text.length ∧ text.getD i 0 = c := by
  have hl := congrArg List.length h
  rw [List.length_drop, List.length_cons] at hl
  have hi : i < text.length := by omega
  rw [List.drop_eq_getElem_cons hi] at h
  refine ⟨hi, ?_⟩
  have := (List.cons.inj h).1
  simp [List.getD, hi, this]
theorem drop_more {text a b : List Nat} {i : Nat} (h : text.drop i = a ++ b) : text.drop (i + a.length) = b := by
  rw [← List.drop_drop, h, List.drop_append_of_le_length (Nat.le_refl _), List.drop_length, List.nil_append]
theorem drop_le {text a b : List Nat} {i : Nat} (h : text.drop i = a ++ b) (hi : i ≤ text.length) : i + a.length ≤ text.length := by
  have hl := congrArg List.length h
  rw [List.length_drop, List.length_append] at hl
  omega
theorem skips_stop {text rest : List Nat} {i : Nat} (h : text.drop i = rest) (hi : i ≤ text.length) (hs : Stop rest) : Skips text i i := by
  refine .stop hi fun hlt => ?_
  cases rest with
  | nil => exact absurd hlt (by have := congrArg List.length h; rw [List.length_drop] at this; simp at this; omega)
  | cons c r =>
    obtain ⟨h1, h2⟩ := hs c r rfl
    refine ⟨by rw [(drop_getD h).2]; exact h1, ?_, ?_⟩
    all_goals
      rw [h]
      intro e
      cases r with
      | nil => simp at e
      | cons d r => exact h2 (List.cons.inj e).1
theorem takeWhile_pre {p : Nat → Bool} : ∀ {a b : List Nat}, (∀ c ∈ a, p c = true) → (∀ c r, b = c :: r → p c = false) → (a ++ b).takeWhile p = a
  | [], b, _, h2 => by
    cases b with
    | nil => rfl
    | cons c r => rw [List.nil_append, List.takeWhile_cons, h2 c r rfl]; rfl
  | x :: a, b, h1, h2 => by
    rw [List.cons_append, List.takeWhile_cons, h1 x (.head _)]
    simp only [if_true, List.cons.injEq, true_and]
    exact takeWhile_pre (fun c hc => h1 c (.tail _ hc)) h2
theorem runEnd_pre {text signs a b : List Nat} {i : Nat} (h : text.drop i = a ++ b) (h1 : ∀ c ∈ a, c ∈ signs) (h2 : ∀ c r, b = c :: r → c ∉ signs) : runEnd text signs i = i + a.length := by
  unfold runEnd
  rw [h, takeWhile_pre (fun c hc => decide_eq_true (h1 c hc)) (fun c r e => decide_eq_false (h2 c r e))]
theorem skips_blank {text a b : List Nat} {c i j : Nat} (h : text.drop i = (c :: a) ++ b) (h1 : ∀ c' ∈ c :: a, c' ∈ blanks) (h2 : ∀ c' r, b = c' :: r → c' ∉ blanks) (hs : Skips text (i + (c :: a).length) j) : Skips text i j := by
  have h0 := drop_getD (show text.drop i = c :: (a ++ b) from h)
  refine .blank h0.1 (by rw [h0.2]; exact h1 c (.head _)) ?_
  rw [runEnd_pre h h1 h2]; exact hs
theorem skips_rem {text m b : List Nat} {i j : Nat} (h : text.drop i = 47 :: 42 :: (m ++ 42 :: 47 :: b)) (hm : ∀ c ∈ m, c ≠ 47 ∧ c ≠ 42) (hs : Skips text (i + 4 + m.length) j) : Skips text i j :=
  .rem (by rw [(drop_getD h).2]; decide) (rem_of h hm) hs
theorem lit_nl : PySem.Str.ofString "\n" = ⟨#[10]⟩ := by decide +kernel
theorem find_line {text m b : List Nat} {i : Nat} (h : text.drop i = m ++ 10 :: b) (hm : 10 ∉ m) : Txt.find3 (S text) (PySem.Str.ofString "\n") (i : Int) = ((i + m.length : Nat) : Int) := by
  rw [lit_nl]
  have e : fromIndex (S text).length (i : Int) = i := by
    unfold fromIndex
    split <;> omega
  have hl := congrArg List.length h
  rw [List.length_drop, List.length_append, List.length_cons] at hl
  have hg : ∀ v, (S text).cps.getD v 0 = text.getD v 0 := fun v => by
    show (Array.mk text).getD v 0 = _
    simp [Array.getD, List.getD]
    split <;> simp_all
  have at_ : text.getD (i + m.length) 0 = 10 := (drop_getD (drop_more h)).2
  have before : ∀ v, i ≤ v → v < i + m.length → text.getD v 0 ≠ 10 := fun v h1 h2 q => by
    have : text.getD v 0 = m.getD (v - i) 0 := by
      have := getD_drop text i (v - i)
      rw [h, show i + (v - i) = v by omega] at this
      rw [← this]
      simp [List.getD, List.getElem?_append_left (show v - i < m.length by omega)]
    rw [this] at q
    apply hm
    rw [← q]
    have hlt : v - i < m.length := by omega
    simp [List.getD, hlt]
  rcases StrLaws.find3_spec (S text) 10 (i : Int) with ⟨_, h2⟩ | ⟨k, h1, h2, h3, h4, h5⟩
  · rw [e] at h2
    exact absurd ((hg _).trans at_) (h2 (i + m.length) (by walk_at "om") (by show _ < text.length; omega))
  · rw [e] at h2 h5
    rw [h1]
    rw [hg] at h4
    rcases Nat.lt_trichotomy k (i + m.length) with h6 | h6 | h6
    · exact absurd h4 (before k h2 h6)
    · rw [h6]
    · exact absurd ((hg _).trans at_) (h5 _ (by walk_at "om") h6)
theorem skips_line {text m b : List Nat} {i j : Nat} (h : text.drop i = 47 :: 47 :: (m ++ 10 :: b)) (hm : 10 ∉ m) (hs : Skips text (i + (m.length + 2)) j) : Skips text i j := by
  have h0 := drop_getD h
  have hl := congrArg List.length h
  simp only [List.length_drop, List.length_append, List.length_cons] at hl
  refine .line h0.1 (by rw [h0.2]; decide) (by rw [h]; rfl) (find_line (m := 47 :: 47 :: m) (b := b) h (by simpa using hm)) (by simp only [List.length_cons]; omega) (by simp only [List.length_cons]; omega) hs
theorem skips_gap {text gp rest : List Nat} {i : Nat} (h : text.drop i = gp ++ rest) (hi : i ≤ text.length) (hs : Stop rest) (hg : gp ∈ gaps) : Skips text i (i + gp.length) := by
  have hb : ∀ c' r, rest = c' :: r → c' ∉ blanks := fun c' r e => (hs c' r e).1
  have hend : Skips text (i + gp.length) (i + gp.length) := skips_stop (drop_more h) (drop_le h hi) hs
  simp only [List.mem_cons, List.not_mem_nil, or_false] at hg
  rcases hg with rfl | rfl | rfl | rfl | rfl | rfl | rfl | rfl
  · exact skips_blank h (by decide) hb hend
  · exact skips_blank h (by decide) hb hend
  · exact skips_blank h (by decide) hb hend
  · exact skips_blank h (by decide) hb hend
  · exact skips_blank h (by decide) hb hend
  · refine skips_blank (c := 32) (a := []) (b := 47 :: 47 :: ([32, 120, 13] ++ 10 :: rest)) (h.trans rfl) (by decide) (fun c' r e => by rw [← (List.cons.inj e).1]; decide) ?_
    have h1 : text.drop (i + 1) = 47 :: 47 :: ([32, 120, 13] ++ 10 :: rest) := drop_more (a := [32]) h
    refine skips_line h1 (by decide) ?_
    have h2 : text.drop (i + 1 + 5) = [10] ++ rest := drop_more (a := [47, 47, 32, 120, 13]) h1
    exact skips_blank (c := 10) (a := []) h2 (by decide) hb hend
  · exact skips_rem (m := []) h (fun _ h => nomatch h) hend
  · refine skips_blank (c := 9) (a := []) (b := 47 :: 42 :: ([32, 55, 32] ++ 42 :: 47 :: ([13] ++ rest))) (h.trans rfl) (by decide) (fun c' r e => by rw [← (List.cons.inj e).1]; decide) ?_
    have h1 : text.drop (i + 1) = 47 :: 42 :: ([32, 55, 32] ++ 42 :: 47 :: ([13] ++ rest)) := drop_more (a := [9]) h
    refine skips_rem h1 (by decide) ?_
    have h2 : text.drop (i + 1 + 4 + 3) = [13] ++ rest := drop_more (a := [47, 42, 32, 55, 32, 42, 47]) h1
    exact skips_blank (c := 13) (a := []) h2 (by decide) hb hend
theorem skips_few {text gp rest : List Nat} {i : Nat} (h : text.drop i = gp ++ rest) (hi : i ≤ text.length) (hs : Stop rest) (hg : gp ∈ [[], [32], [13]]) : Skips text i (i + gp.length) := by
  have hb : ∀ c' r, rest = c' :: r → c' ∉ blanks := fun c' r e => (hs c' r e).1
  have hend : Skips text (i + gp.length) (i + gp.length) := skips_stop (drop_more h) (drop_le h hi) hs
  simp only [List.mem_cons, List.not_mem_nil, or_false] at hg
  rcases hg with rfl | rfl | rfl
  · exact hend
  · exact skips_blank h (by decide) hb hend
  · exact skips_blank h (by decide) hb hend
theorem dec_digit : ∀ d, 1 ≤ d → d < 10 → hexDigit d ∈ codes "0123456789" ∧ hexDigit d ∉ nameBegins ∧ hexDigit d ≠ 48 ∧ hexDigit d ∉ blanks ∧ hexDigit d ≠ 47 := by
  have : ∀ d, d < 10 → 1 ≤ d → hexDigit d ∈ codes "0123456789" ∧ hexDigit d ∉ nameBegins ∧ hexDigit d ≠ 48 ∧ hexDigit d ∉ blanks ∧ hexDigit d ≠ 47 := by decide +kernel
  exact fun d h1 h2 => this d h2 h1
theorem NumIs.first {ah figs kd : List Nat} {bs number many lead : Nat} (h : NumIs ah figs kd bs number many lead) : ∃ c r, ah ++ figs ++ kd = c :: r ∧ c ∈ codes "0123456789" ∧ c ∉ nameBegins ∧ c ∉ blanks ∧ c ≠ 47 := by
  have hb := h.base
  have hh := h.head
  have h2 := h.lead2
  simp only [List.mem_cons, List.not_mem_nil, or_false, Prod.mk.injEq] at hb
  have z : (48 : Nat) ∈ codes "0123456789" ∧ 48 ∉ nameBegins ∧ 48 ∉ blanks ∧ 48 ≠ 47 := by decide +kernel
  rcases hb with ⟨rfl, rfl⟩ | ⟨rfl, rfl⟩ | ⟨rfl, rfl⟩ | ⟨rfl, rfl⟩
  · cases figs with
    | nil => cases hh
    | cons c r =>
      obtain rfl : c = hexDigit lead := Option.some.inj hh
      obtain ⟨d1, d2, d3, d4, d5⟩ := dec_digit lead h.lead1 h2
      exact ⟨_, _, rfl, d1, d2, d4, d5⟩
  · exact ⟨48, _, rfl, z⟩
  · exact ⟨48, _, rfl, z⟩
  · exact ⟨48, _, rfl, z⟩
theorem NumIs.stop {ah figs kd rest : List Nat} {bs number many lead : Nat} (h : NumIs ah figs kd bs number many lead) : Stop ((ah ++ figs ++ kd) ++ rest) := by
  obtain ⟨c, r, e, _, _, h3, h4⟩ := h.first
  intro c' r' e'
  rw [e] at e'
  rw [← (List.cons.inj e').1]
  exact ⟨h3, h4⟩
theorem kinds_signs : ∀ k ∈ intKinds, ∀ c ∈ k, c ∈ nameSigns := by decide +kernel
theorem kinds_head : ∀ k ∈ intKinds, ∃ c r, k = c :: r ∧ figureWorth c = 99 ∧ c ≠ 95 := by
  intro k hk
  have : ∀ k ∈ intKinds, (k.headD 0 = 105 ∨ k.headD 0 = 117) ∧ k ≠ [] := by decide
  obtain ⟨h1, h2⟩ := this k hk
  cases k with
  | nil => exact absurd rfl h2
  | cons c r =>
    refine ⟨c, r, rfl, ?_⟩
    have h1 : c = 105 ∨ c = 117 := h1
    rcases h1 with rfl | rfl <;> decide
/-- what may follow a number: nothing, or a gap -/
def Behind (rest : List Nat) : Prop := ∀ c r, rest = c :: r → c ∉ nameSigns ∧ figureWorth c = 99
theorem isFig_no {bs c : Nat} (hb : bs ≤ 16) (h : figureWorth c = 99) (h2 : c ≠ 95) : isFig bs c = false := by
  unfold isFig
  rw [h]
  simp [h2]; omega
theorem us_sign : (95 : Nat) ∈ nameSigns := by decide +kernel
theorem num_at {text ah figs kd rest : List Nat} {bs number many lead i : Nat} (hn : NumIs ah figs kd bs number many lead) (h : text.drop i = (ah ++ figs ++ kd) ++ rest) (hr : Behind rest) :
    IntAt text i figs (if kd = [] then [] else kd) bs (i + (ah ++ figs ++ kd).length) ∧ i + headLen ((text.drop i).take 2) ≤ text.length ∧ intRow text i figs (if kd = [] then [] else kd) bs (i + (ah ++ figs ++ kd).length) = numRow (ah ++ figs ++ kd) i number kd := by
  have hkk : (if kd = [] then [] else kd) = kd := by split <;> simp_all
  rw [hkk]
  have hb16 := bases_ok _ hn.base
  dsimp only at hb16
  have hkd : kd = [] ∨ kd ∈ intKinds := by
    have := hn.kind
    simp only [List.mem_cons] at this ⊢
    rcases this with h | h | h
    · exact .inl h
    · exact .inl h
    · exact .inr h
  have hfig : (95 : Nat) ∈ nameSigns := us_sign
  have hbeh : ∀ c r, rest = c :: r → isFig bs c = false := fun c r e => isFig_no hb16.2 (hr c r e).2 fun q => (hr c r e).1 (q ▸ hfig)
  have hend : ∀ c r, kd ++ rest = c :: r → isFig bs c = false := by
    intro c r e
    rcases hkd with rfl | hk
    · exact hbeh c r e
    · obtain ⟨c', r', rfl, h1, h2⟩ := kinds_head kd hk
      rw [← (List.cons.inj e).1]
      exact isFig_no hb16.2 h1 h2
  have hbase : baseOf ((text.drop i).take 2) = bs ∧ headLen ((text.drop i).take 2) = ah.length := by
    rw [h]
    have hb := hn.base
    simp only [List.mem_cons, List.not_mem_nil, or_false, Prod.mk.injEq] at hb
    rcases hb with ⟨rfl, rfl⟩ | ⟨rfl, rfl⟩ | ⟨rfl, rfl⟩ | ⟨rfl, rfl⟩
    · have hh := hn.head
      cases figs with
      | nil => cases hh
      | cons c r =>
        obtain rfl : c = hexDigit lead := Option.some.inj hh
        have h48 := (dec_digit lead hn.lead1 hn.lead2).2.2.1
        have : baseOf (List.take 2 ([] ++ hexDigit lead :: r ++ kd ++ rest)) = 10 := by
          simp only [List.nil_append, List.cons_append, List.take_succ_cons, baseOf, List.cons.injEq, h48, false_and, if_false]
        exact ⟨this, by unfold headLen; rw [this]; rfl⟩
    · exact ⟨rfl, rfl⟩
    · exact ⟨rfl, rfl⟩
    · exact ⟨rfl, rfl⟩
  obtain ⟨hb1, hb2⟩ := hbase
  have h1 : text.drop (i + ah.length) = figs ++ (kd ++ rest) := drop_more (by rw [h]; simp [List.append_assoc])
  have h2 : text.drop (i + ah.length + figs.length) = kd ++ rest := drop_more h1
  have hl := congrArg List.length h
  simp only [List.length_drop, List.length_append] at hl
  have hrun : runEnd text nameSigns (i + ah.length + figs.length) = i + (ah ++ figs ++ kd).length := by
    rw [runEnd_pre h2 (fun c hc => ?_) (fun c r e => (hr c r e).1)]
    · simp only [List.length_append]; omega
    · rcases hkd with rfl | hk
      · cases hc
      · exact kinds_signs kd hk c hc
  have hpos : 1 ≤ figs.length := by
    have := hn.head
    cases figs with
    | nil => cases this
    | cons => simp
  refine ⟨⟨hb1.symm, ?_, ?_, ?_, ?_, hkd⟩, ?_, ?_⟩
  · rw [hb2]; unfold figsAt
    rw [h1, takeWhile_pre hn.figs_.all hend]
  · rw [hn.figs_.count]; exact hn.m1
  · rw [hb2, hrun]
  · rw [hb2, h2]
    rw [show i + (ah ++ figs ++ kd).length - (i + ah.length + figs.length) = kd.length by simp only [List.length_append]; omega]
    rw [List.take_left]
  · rw [hb2]; omega
  · unfold intRow numRow
    rw [h, show i + (ah ++ figs ++ kd).length - i = (ah ++ figs ++ kd).length by omega, List.take_left, hn.figs_.val]
theorem gaps_behind : ∀ gp ∈ gaps, ∃ c r, gp = c :: r ∧ c ∉ nameSigns ∧ figureWorth c = 99 := by
  intro gp hg
  have : ∀ gp ∈ gaps, gp ≠ [] ∧ gp.headD 0 ∉ nameSigns ∧ figureWorth (gp.headD 0) = 99 := by decide +kernel
  obtain ⟨h1, h2, h3⟩ := this gp hg
  cases gp with
  | nil => exact absurd rfl h1
  | cons c r => exact ⟨c, r, rfl, h2, h3⟩
theorem behind_gap {gp rest : List Nat} (hg : gp ∈ gaps) : Behind (gp ++ rest) := by
  obtain ⟨c, r, rfl, h1, h2⟩ := gaps_behind gp hg
  intro c' r' e
  rw [← (List.cons.inj e).1]
  exact ⟨h1, h2⟩
theorem num_word {text ah figs kd rest : List Nat} {bs number many lead i : Nat} (hn : NumIs ah figs kd bs number many lead) (h : text.drop i = (ah ++ figs ++ kd) ++ rest) (hr : Behind rest) :
    (many ≤ 40 → Word text i (some (numRow (ah ++ figs ++ kd) i number kd, i + (ah ++ figs ++ kd).length))) ∧ (¬ many ≤ 40 → Word text i none) := by
  obtain ⟨h1, h2, h3⟩ := num_at hn h hr
  obtain ⟨c, r, e, c1, c2, _, _⟩ := hn.first
  have h0 : i < text.length ∧ text.getD i 0 = c := drop_getD (rest := r ++ rest) (by rw [h, e]; rfl)
  rw [← h0.2] at c1 c2
  constructor
  · intro hm
    rw [← h3]
    exact .int h0.1 c1 c2 h2 h1 (by rw [hn.figs_.count]; exact hm)
  · intro hm
    exact .fault h0.1 c1 c2 h2 h1 (by rw [hn.figs_.count]; omega)
theorem Built.toks {i : Nat} {text : List Nat} {rows : List Row} (h : Built i text rows) : ∀ (suf : List Nat), Stop suf →
    ∃ i0, Skips (text ++ suf) 0 i0 ∧ ∀ rows2 f, Toks (text ++ suf) text.length rows2 f → Toks (text ++ suf) i0 (rows ++ rows2) f := by
  induction h with
  | @start t0 ht =>
    intro suf hs
    refine ⟨t0.length, ?_, fun rows2 f h => h⟩
    have := skips_few (text := t0 ++ suf) (gp := t0) (rest := suf) (i := 0) (by rw [List.drop_zero]) (Nat.zero_le _) hs ht
    rwa [Nat.zero_add] at this
  | @more i text rows ah figs kd gp bs number many lead hB hn hm hg ih =>
    intro suf hs
    have e0 : text ++ (ah ++ figs ++ kd) ++ gp ++ suf = text ++ ((ah ++ figs ++ kd) ++ (gp ++ suf)) := by simp [List.append_assoc]
    obtain ⟨i0, h1, h2⟩ := ih ((ah ++ figs ++ kd) ++ (gp ++ suf)) hn.stop
    rw [e0]
    refine ⟨i0, h1, fun rows2 f ht => ?_⟩
    rw [List.append_assoc rows]
    refine h2 _ _ ?_
    have d1 : (text ++ ((ah ++ figs ++ kd) ++ (gp ++ suf))).drop text.length = (ah ++ figs ++ kd) ++ (gp ++ suf) := by
      rw [List.drop_append_of_le_length (Nat.le_refl _), List.drop_length, List.nil_append]
    have d2 := drop_more d1
    have l1 : text.length ≤ (text ++ ((ah ++ figs ++ kd) ++ (gp ++ suf))).length := by rw [List.length_append]; omega
    have l2 := drop_le d1 l1
    refine .word ((num_word hn d1 (behind_gap hg)).1 hm) l2 (skips_gap d2 l2 hs hg) ?_
    have : text.length + (ah ++ figs ++ kd).length + gp.length = (text ++ (ah ++ figs ++ kd) ++ gp).length := by simp only [List.length_append]
    rw [this]
    exact ht
theorem built_over {i : Nat} {text ah figs kd : List Nat} {rows : List Row} {bs number many lead : Nat} (h : Built i text rows) (hn : NumIs ah figs kd bs number many lead) (hm : ¬ many ≤ 40) :
    ∃ i0, Skips (text ++ (ah ++ figs ++ kd)) 0 i0 ∧ Toks (text ++ (ah ++ figs ++ kd)) i0 rows (some text.length) := by
  have hs := hn.stop (rest := [])
  rw [List.append_nil] at hs
  obtain ⟨i0, h1, h2⟩ := h.toks (ah ++ figs ++ kd) hs
  refine ⟨i0, h1, ?_⟩
  have := h2 [] (some text.length) (.fault ((num_word (rest := []) hn (by rw [List.drop_append_of_le_length (Nat.le_refl _), List.drop_length, List.nil_append, List.append_nil]) (fun _ _ e => nomatch e)).2 hm))
  rwa [List.append_nil] at this
abbrev names : List (List Nat) := [[97], [102, 110], [83, 101, 108, 102], [105, 56], [95], [95, 57]]
theorem names_ok : ∀ nm ∈ names, (∀ c ∈ nm, c ∈ nameSigns) ∧ nm ≠ [] ∧ nm.headD 0 ∈ nameBegins ∧ nm.headD 0 ∉ blanks ∧ nm.headD 0 ≠ 47 ∧ nm.length ≤ 4 ∧ (∀ c ∈ nm, c < 128) := by decide +kernel
theorem angles_ok : ∀ sg ∈ angles, sg ≠ [] ∧ sg.headD 0 = 62 := by decide
theorem gt_ok : (62 : Nat) ∉ nameSigns ∧ (62 : Nat) ∉ blanks ∧ (62 : Nat) ≠ 47 ∧ 32 ∉ nameSigns ∧ 13 ∉ nameSigns := by decide +kernel
theorem built_whole {i : Nat} {text nm gp sg : List Nat} {rows : List Row} (h : Built i text rows) (hnm : nm ∈ names) (hg : gp ∈ [[], [32], [13]]) (hsg : sg ∈ angles) :
    ∃ i0, Skips (text ++ nm ++ gp ++ sg) 0 i0 ∧ Toks (text ++ nm ++ gp ++ sg) i0 (rows ++ [nameRow nm text.length, signRow sg (text ++ nm ++ gp).length]) none := by
  obtain ⟨a1, a2, a3, a4, a5, _⟩ := names_ok nm hnm
  obtain ⟨b1, b2⟩ := angles_ok sg hsg
  obtain ⟨z1, z2, z3, z4, z5⟩ := gt_ok
  have e0 : text ++ nm ++ gp ++ sg = text ++ (nm ++ (gp ++ sg)) := by simp [List.append_assoc]
  have hst : Stop (nm ++ (gp ++ sg)) := by
    intro c r e
    cases nm with
    | nil => exact absurd rfl a2
    | cons c' r' =>
      rw [← (List.cons.inj e).1]
      exact ⟨a4, a5⟩
  have hst2 : Stop sg := by
    intro c r e
    subst e
    have b2 : c = 62 := b2
    rw [b2]
    exact ⟨z2, z3⟩
  obtain ⟨i0, h1, h2⟩ := h.toks _ hst
  rw [e0]
  refine ⟨i0, h1, h2 _ _ ?_⟩
  have d1 : (text ++ (nm ++ (gp ++ sg))).drop text.length = nm ++ (gp ++ sg) := by
    rw [List.drop_append_of_le_length (Nat.le_refl _), List.drop_length, List.nil_append]
  have l1 : text.length ≤ (text ++ (nm ++ (gp ++ sg))).length := by rw [List.length_append]; omega
  have d2 := drop_more d1
  have l2 := drop_le d1 l1
  have d3 := drop_more d2
  have l3 := drop_le d2 l2
  have d4 : (text ++ (nm ++ (gp ++ sg))).drop (text.length + nm.length + gp.length) = sg ++ [] := by rw [d3, List.append_nil]
  have l4 := drop_le d4 l3
  have hlt : text.length < (text ++ (nm ++ (gp ++ sg))).length ∧ (text ++ (nm ++ (gp ++ sg))).getD text.length 0 ∈ nameBegins := by
    cases nm with
    | nil => exact absurd rfl a2
    | cons c' r' =>
      have := drop_getD (rest := r' ++ (gp ++ sg)) (c := c') d1
      exact ⟨this.1, by rw [this.2]; exact a3⟩
  have hrun : runEnd (text ++ (nm ++ (gp ++ sg))) nameSigns text.length = text.length + nm.length := by
    refine runEnd_pre d1 a1 fun c r e => ?_
    have hsg : ∀ c r, sg = c :: r → c ∉ nameSigns := fun c r e => by
      subst e
      have b2 : c = 62 := b2
      rw [b2]; exact z1
    simp only [List.mem_cons, List.not_mem_nil, or_false] at hg
    rcases hg with rfl | rfl | rfl
    · exact hsg c r e
    · rw [← (List.cons.inj e).1]; exact z4
    · rw [← (List.cons.inj e).1]; exact z5
  have w1 : Word (text ++ (nm ++ (gp ++ sg))) text.length (some (nameRow nm text.length, text.length + nm.length)) := by
    have := Word.name hlt.1 hlt.2
    rw [hrun, d1, show text.length + nm.length - text.length = nm.length by omega, List.take_left] at this
    exact this
  refine .word w1 l2 (skips_few d2 l2 hst2 hg) ?_
  have hg0 : (text ++ (nm ++ (gp ++ sg))).getD (text.length + nm.length + gp.length) 0 = 62 ∧ text.length + nm.length + gp.length < (text ++ (nm ++ (gp ++ sg))).length := by
    cases sg with
    | nil => exact absurd rfl b1
    | cons c r =>
      have b2 : c = 62 := b2
      have := drop_getD d3
      exact ⟨this.2.trans b2, this.1⟩
  have el : (text ++ nm ++ gp).length = text.length + nm.length + gp.length := by simp only [List.length_append]
  rw [el]
  refine .word (.sign hg0.2 hg0.1 d3 hsg) l4 ?_ ?_ (k := text.length + nm.length + gp.length + sg.length)
  · exact skips_stop (drop_more d4) l4 (fun _ _ e => nomatch e)
  · have : text.length + nm.length + gp.length + sg.length = (text ++ (nm ++ (gp ++ sg))).length := by simp only [List.length_append]; omega
    rw [this]
    exact .done
/-- all signs are small -/
theorem isFig_small {bs c : Nat} (hb : bs ≤ 16) (h : isFig bs c = true) : c < 128 := by
  unfold isFig figureWorth at h
  simp only [Bool.or_eq_true, beq_iff_eq, decide_eq_true_eq] at h
  rcases h with h | h
  · omega
  · split at h
    · omega
    · split at h
      · omega
      · split at h <;> omega
theorem NumIs.small {ah figs kd : List Nat} {bs number many lead : Nat} (h : NumIs ah figs kd bs number many lead) : ∀ c ∈ ah ++ figs ++ kd, c < 128 := by
  have hb16 := bases_ok _ h.base
  have h1 : ∀ p ∈ bases, ∀ c ∈ p.1, c < 128 := by decide
  have h2 : ∀ k ∈ [] :: [] :: intKinds, ∀ c ∈ k, c < 128 := by decide
  intro c hc
  rcases List.mem_append.mp hc with hc | hc
  · rcases List.mem_append.mp hc with hc | hc
    · exact h1 _ h.base c hc
    · exact isFig_small hb16.2 (h.figs_.all c hc)
  · exact h2 _ h.kind c hc
theorem few_small : ∀ t ∈ ([[], [32], [13]] : List (List Nat)), ∀ c ∈ t, c < 128 := by decide
theorem gaps_small : ∀ t ∈ gaps, ∀ c ∈ t, c < 128 := by decide
theorem app_small {a b : List Nat} (h1 : ∀ c ∈ a, c < 128) (h2 : ∀ c ∈ b, c < 128) : ∀ c ∈ a ++ b, c < 128 := fun c hc => by
  rcases List.mem_append.mp hc with hc | hc
  · exact h1 c hc
  · exact h2 c hc
theorem Built.small {i : Nat} {text : List Nat} {rows : List Row} (h : Built i text rows) : ∀ c ∈ text, c < 128 := by
  induction h with
  | start h => exact few_small _ h
  | more _ hn _ hg ih => exact app_small (app_small ih hn.small) (gaps_small _ hg)
end
section
/-- a table of codes that has one lambda's place, or none yet -/
def TabSt (P x y : Nat) (qual : Str) (ps : Array Value) (tl : List (Addr × Obj)) : Prop := (ps = #[] ∧ tl = []) ∨ ∃ (c' : Addr) (oc : Obj) (vs : Array Value) (t : Tok), ps = #[rawInt x, rawInt y, .ref c'] ∧ tl = [(c', oc)] ∧ c' ≠ P ∧ oc.data = .fields vs ∧ vs[1]? = some (.str qual t)
theorem tab_same {P x y : Nat} {qual : Str} {ps : Array Value} {tl : List (Addr × Obj)} {q : Addr × Obj} (h : TabSt P x y qual ps tl) (hq : q ∈ tl) : tl = [q] := by
  rcases h with ⟨_, rfl⟩ | ⟨c', oc, vs, t, _, rfl, _⟩
  · cases hq
  · rw [List.mem_singleton.mp hq]
theorem fold_QE {α : Type} {M : Model} {A : Around} {env : Env} {t : Sem α} {Q : α → Shared → Prop} {E : Value → Shared → Prop} {s : Shared} (h : ∀ (Qk : α → Shared → Prop) (Ek : Value → Shared → Prop), (∀ v s', Q v s' → Qk v s') → PassesOwn M A env Ek → wpAny M A t Qk Ek s) (hE : PassesOwn M A env E := by passes_own) : wpAny M A t Q E s := h Q E (fun _ _ x => x) hE
section
variable {M : Model} {A : Around} {E : Value → Shared → Prop} {s : Shared} {h₀ : Heap} {L a c P : Addr} {m mg mb : Str → Option Value} {cn : Str} {cs : Scope} {ccd : Value} {cl : List (Str × Addr)} {rest : List (Addr × Obj)}
  {p : Program} {loose : List Str} {mean : ExcName → Option Value} {name qual : Str} {params : Arguments} {body : PySem.Expr} {scope : Scope} {ps : Array Value} {tl : List (Addr × Obj)} {pos : Pos} {firstLine : Nat} {clos : List (Str × Addr)}
theorem lam_made {Q : Value → Shared → Prop} (F : Fr h₀ L s.heap m) (N : News h₀ L s.heap ((P, tabObj ps) :: rest)) (hr : ∀ p ∈ rest, p.1 ≠ P) (T : Top p loose mean mg mb h₀) (C : CodeHd h₀ c P) (hcd : ccd = .ref c) (htab : TabSt P pos.line pos.col qual ps tl) (htl : ∀ p ∈ tl, p ∈ rest)
    (hcl : closureFor scope (envX cn cs L a ccd cl) = pure clos)
    (h : ∀ f c' oc vs t ctv h' tk ofn, ofn = kla_obj name qual params body scope clos ((mg "__name__").getD .none) c' ctv → Fr h₀ L h' m →
      News h₀ L h' ((f, ofn) :: (c', oc) :: (P, tabObj #[rawInt pos.line, rawInt pos.col, .ref c']) :: rest) →
      c' ≠ P → ((c', oc) ∈ tl ∨ ∀ q ∈ rest, q.1 < c') → oc.data = .fields vs → vs[1]? = some (.str qual t) → Q (.ref f) { s with heap := h', toks := tk }) :
    wpAny M A (makeFunction name qual params (.expr body) scope (envX cn cs L a ccd cl) [] [] [] pos firstLine) Q E s := by
  rcases htab with ⟨rfl, rfl⟩ | ⟨c', oc, vs, t, rfl, rfl, hne, hoc, hv⟩
  · refine kla_nest F N T C hcd (.head hr) True.intro rfl hcl fun f c' oc vs t ctv h' tk F' N' h1 h2 h3 h4 => ?_
    exact h f c' oc vs t ctv h' tk _ rfl F' N' (Nat.ne_of_gt (h3 _ (.head _))) (.inr fun q hq => h3 q (.tail _ hq)) h1 h2
  · refine kla_hit (c' := c') F N T C hcd (.head _) (by simp [TriplesOk, rawInt]) (by simp [codeAmong, rawInt]) hcl fun f ctv h' tk F' N' h1 => ?_
    refine h f c' oc vs t ctv h' tk _ rfl F' (fun q hq => N' q ?_) hne (.inl (.head _)) hoc hv
    have := htl _ (.head _)
    simp only [List.mem_cons] at hq ⊢
    rcases hq with h | rfl | h | h <;> simp_all
end
end
section
local macro_rules | `(tactic| walk_at "FPost") => `(tactic| dsimp only [FPost])
local macro_rules | `(tactic| walk_at "eval Name") => `(tactic| (kc_free; k_dflt (refine' nameX_F ?N ?c ?m ?d ?_ ?a ?b; (case a => rfl); (case b => rfl); (case N => k_asm); (case c => rfl); (case m => k_mem); (case d => k_asm); k_whole)))
local macro_rules | `(tactic| walk_at "subscriptTail Name Name ref int") => `(tactic| ((with_reducible show wpAny _ _ (subscriptTail _ _ (Value.ref _) (Value.int _ _)) _ _ _); refine Hold.out ?_))
local macro_rules | `(tactic| walk_at "subscriptTail Name BinOp ref int") => `(tactic| ((with_reducible show wpAny _ _ (subscriptTail _ _ (Value.ref _) (Value.int _ _)) _ _ _); refine Hold.out ?_))
local macro_rules | `(tactic| walk_at "subscriptTail Name Constant ref int") => `(tactic| ((with_reducible show wpAny _ _ (subscriptTail _ _ (Value.ref _) (Value.int _ _)) _ _ _); refine Hold.out ?_))
local macro_rules | `(tactic| walk_at "callWith ref") => `(tactic| (k_dflt (first | (refine' callWith_K ?k1 ?k2 ?_; (case k1 => k_asm); (case k2 => k_is); k_whole) | (refine' callWith_K0 ?k1 ?k2 ?_; (case k1 => k_in); (case k2 => k_is); k_whole))))
local macro_rules | `(tactic| walk_at "eval Name") => `(tactic| (k_dflt (refine' nameX_L ?F ?v ?_ ?a ?b; (case F => k_asm); (case a => rfl); (case b => rfl); (case v => rfl); k_whole)))
local macro_rules | `(tactic| walk_at $k:str) => if ["exec For Name Call cons nil", "exec For Name Name cons nil", "pyIter ref", "compareOp NotEq ref ref", "compareOp Eq ref ref"].contains k.getString then `(tactic| refine Hold.out ?_) else Lean.Macro.throwUnsupported
section
local macro_rules | `(tactic| k_all) => `(tactic| assumption)
local macro_rules | `(tactic| walk_at $k:str) => if ["call builtin:list.append", "binaryOp Add str str", "eval Lambda"].contains k.getString then `(tactic| refine Hold.out ?_) else Lean.Macro.throwUnsupported
structure RowSt where
  text : List Nat
  rows : List Row
  tv : List (Addr × List Value)
  nd : Nat
  a : Nat
  b : Nat
  ta : Tok
  tb : Tok
  o1 : Obj
  o2 : Obj
  tt : Tok
structure RowP (i : Nat) (src dl L' I : Addr) (c : RowSt) : Prop where
  built : Built i c.text c.rows
  rows2 : Rows2 c.rows c.tv
  cell1 : c.o1.data = .cell (some (.str (S c.text) c.tt))
  cell2 : ∃ v, c.o2.data = .cell v
  new : ∀ p ∈ c.tv, src < p.1 ∧ dl < p.1 ∧ L' + 2 < p.1 ∧ p.1 ≠ I
theorem row_ne {tv : List (Addr × List Value)} {l own : List (Addr × Obj)} {y : Addr} (h1 : ∀ q ∈ tv, q.1 ≠ y) (h2 : ∀ p ∈ l, p.1 ≠ y) (h3 : ∀ p ∈ own, p.1 ≠ y) : ∀ p ∈ (tupsOf tv ++ l) ++ own, p.1 ≠ y := fun p hp => by
  rcases List.mem_append.mp hp with hp | hp
  · rcases List.mem_append.mp hp with hp | hp
    · obtain ⟨q, hq, rfl⟩ := tups_mem hp
      exact h1 q hq
    · exact h2 p hp
  · exact h3 p hp
abbrev lamQual : Str := Str.ofString "_law_row_right" ++ ".<locals>." ++ Str.ofString "<lambda>"
theorem pull_5 {h₀ h : Heap} {L : Addr} {a b c d q : Addr × Obj} {rest : List (Addr × Obj)} (N : News h₀ L h (a :: b :: c :: d :: q :: rest)) : News h₀ L h ([q] ++ (a :: b :: c :: d :: rest)) := fun p hp => N p (by
  simp only [List.mem_cons, List.mem_append, List.not_mem_nil, or_false] at hp ⊢
  rcases hp with h | h | h | h | h | h <;> simp [h])
theorem pull_3k {h₀ h : Heap} {L : Addr} {a b q : Addr × Obj} {rest : List (Addr × Obj)} (N : News h₀ L h (a :: b :: q :: rest)) : News h₀ L h ([q] ++ (a :: b :: rest)) := fun p hp => N p (by
  simp only [List.mem_cons, List.mem_append, List.not_mem_nil, or_false] at hp ⊢
  rcases hp with h | h | h | h <;> simp [h])
def Off (x dx D : Addr) (l : List (Addr × Obj)) : Prop := ∀ q ∈ l, q.1 ≠ x ∧ q.1 ≠ dx ∧ q.1 ≠ D
theorem Off.all {x dx D : Addr} {l : List (Addr × Obj)} (n1 : ∀ p ∈ l, p.1 ≠ x) (n2 : ∀ p ∈ l, p.1 ≠ dx) (n3 : ∀ p ∈ l, p.1 ≠ D) : Off x dx D l := fun q h => ⟨n1 q h, n2 q h, n3 q h⟩
theorem Off.one {x dx D t : Addr} {o : Obj} {l : List (Addr × Obj)} (h1 : t ≠ x) (h2 : t ≠ dx) (h3 : t ≠ D) (n : Off x dx D l) : Off x dx D ((t, o) :: l) := fun q h => by
  rcases List.mem_cons.mp h with rfl | h
  · exact ⟨h1, h2, h3⟩
  · exact n q h
theorem Off.old {x dx D t : Addr} {o : Obj} {l : List (Addr × Obj)} (a : t < dx) (b : dx < x) (c : x < D) (n : Off x dx D l) : Off x dx D ((t, o) :: l) :=
  .one (Nat.ne_of_lt (Nat.lt_trans a b)) (Nat.ne_of_lt a) (Nat.ne_of_lt (Nat.lt_trans (Nat.lt_trans a b) c)) n
theorem Off.new {x dx D t : Addr} {o : Obj} {P : Prop} {l : List (Addr × Obj)} (h : @LT.lt Nat _ x t ∧ @LT.lt Nat _ dx t ∧ @LT.lt Nat _ D t ∧ P) (n : Off x dx D l) : Off x dx D ((t, o) :: l) :=
  .one (Nat.ne_of_gt h.1) (Nat.ne_of_gt h.2.1) (Nat.ne_of_gt h.2.2.1) n
theorem Off.new1 {x dx D t : Addr} {o : Obj} {P P0 : Prop} {l : List (Addr × Obj)} (h : P0 ∧ @LT.lt Nat _ x t ∧ @LT.lt Nat _ dx t ∧ @LT.lt Nat _ D t ∧ P) (n : Off x dx D l) : Off x dx D ((t, o) :: l) := .new h.2 n
theorem Off.sep {w : World} {x dx D : Addr} {refs : List Value} {c k : Nat} {ta tb tc : Tok} {l : List (Addr × Obj)} (n : Off x dx D l) : ∀ p ∈ hereLed w x dx D refs c k ta tb tc, ∀ q ∈ l, q.1 ≠ p.1 := fun p hp q hq => by
  simp only [List.mem_cons, List.not_mem_nil, or_false] at hp
  rcases hp with rfl | rfl | rfl
  · exact (n q hq).1
  · exact (n q hq).2.1
  · exact (n q hq).2.2
theorem sep_1 {src : Addr} {o : Obj} {l : List (Addr × Obj)} (h : ∀ p ∈ l, p.1 ≠ src) : ∀ p ∈ [(src, o)], ∀ q ∈ l, q.1 ≠ p.1 := fun p hp q hq => by
  rw [List.mem_singleton.mp hp]; exact h q hq
theorem texts3 {u0 u1 u2 : Tok} : TextsAre [.str (Str.ofString "") u0, .str (Str.ofString " ") u1, .str (Str.ofString "\r") u2] [[], [32], [13]] := .cons (by decide +kernel) (.cons (by decide +kernel) (.cons (by decide +kernel) .nil))
theorem put_ro {h₀ h : Heap} {L : Addr} {ro news : List (Addr × Obj)} (N : News h₀ L h news) (hr : ∀ p ∈ ro, p ∈ news) : News h₀ L h (ro ++ news) := fun p hp => N p (by
  rcases List.mem_append.mp hp with hp | hp
  · exact hr p hp
  · exact hp)
abbrev RowTab (ps : Array Value) (tl : List (Addr × Obj)) : Prop := TabSt 262 (192 : Nat) (30 : Nat) lamQual ps tl
theorem pull_4 {h₀ h : Heap} {L : Addr} {a b c q : Addr × Obj} {rest : List (Addr × Obj)} (N : News h₀ L h (a :: b :: c :: q :: rest)) : News h₀ L h ([q] ++ (a :: b :: c :: rest)) := fun p hp => N p (by
  simp only [List.mem_cons, List.mem_append, List.not_mem_nil, or_false] at hp ⊢
  rcases hp with h | h | h | h | h <;> simp [h])
theorem Rows2.get : ∀ {rs : List Row} {tv : List (Addr × List Value)}, Rows2 rs tv → ∀ {i : Nat} {r : Row}, rs[i]? = some r → ∃ a vs, (refsOf tv)[i]? = some (.ref a) ∧ RowIs r vs ∧ (a, tupObj vs) ∈ tupsOf tv
  | _, _, .nil, i, r, h => by simp at h
  | _, _, .cons (a := a) (vs := vs) h1 h2, 0, r, h => by
    obtain rfl := Option.some.inj h
    exact ⟨a, vs, rfl, h1, .head _⟩
  | _, _, .cons h1 h2, i + 1, r, h => by
    obtain ⟨a, vs, e1, e2, e3⟩ := h2.get (i := i) (r := r) h
    exact ⟨a, vs, e1, e2, .tail _ e3⟩
theorem due_led {g h : Heap} {L x dx D src dl D3 c1 c2 : Addr} {ox od oD so o1 o2 t : Obj} {nd : Nat} {vs : List Value} {tv tv2 : List (Addr × List Value)} {rs : List Row} {r : Row} {W rest : List (Addr × Obj)}
    (N : News g L h ((x, ox) :: (dx, od) :: (D, oD) :: (tupsOf tv2 ++ (src, so) :: (dl, PySem.W.listOf ((⟨refsOf tv⟩ : Array Value).push (.ref D3)) nd) :: (D3, tupObj vs) :: (c2, o2) :: (c1, o1) :: (262, t) :: W)))
    (hW : tupsOf tv ++ rest = W) (h2 : Rows2 rs tv) (hr : RowIs r vs) (hl2 : ∀ p ∈ tv2, p.1 < dx) (hl : ∀ q ∈ (src, so) :: (dl, PySem.W.listOf ((⟨refsOf tv⟩ : Array Value).push (.ref D3)) nd) :: (D3, tupObj vs) :: (c2, o2) :: (c1, o1) :: (262, t) :: W, q.1 < dx) :
    ∃ tvd R, Rows2 (rs ++ [r]) tvd ∧ News g L h ((x, ox) :: (dx, od) :: (D, oD) :: (dl, PySem.W.listOf ⟨refsOf tvd⟩ nd) :: (c1, o1) :: R) ∧ (∀ p ∈ R, p.1 < dx) ∧ dl < dx ∧ c1 < dx ∧ (∀ p ∈ tupsOf tv2, p ∈ R) ∧ (∀ p ∈ tupsOf tvd, p ∈ R) ∧ ∀ p ∈ (262, t) :: rest, p ∈ R := by
  subst hW
  refine ⟨tv ++ [(D3, vs)], tupsOf tv2 ++ (tupsOf (tv ++ [(D3, vs)]) ++ ((262, t) :: rest)), h2.snoc hr, fun p hp => N p ?_, fun p hp => ?_, hl (dl, _) (.tail _ (.head _)), hl (c1, o1) (.tail _ (.tail _ (.tail _ (.tail _ (.head _))))), fun p hp => List.mem_append_left _ hp, fun p hp => List.mem_append_right _ (List.mem_append_left _ hp), fun p hp => List.mem_append_right _ (List.mem_append_right _ hp)⟩
  · rw [show (⟨refsOf (tv ++ [(D3, vs)])⟩ : Array Value) = (⟨refsOf tv⟩ : Array Value).push (.ref D3) by simp [refsOf], show tupsOf (tv ++ [(D3, vs)]) = tupsOf tv ++ [(D3, tupObj vs)] by simp [tupsOf]] at hp
    simp only [List.mem_cons, List.mem_append, List.not_mem_nil, or_false] at hp ⊢
    rcases hp with h | h | h | h | h | h | (h | h) | h | h <;> simp [h]
  · rw [show tupsOf (tv ++ [(D3, vs)]) = tupsOf tv ++ [(D3, tupObj vs)] by simp [tupsOf]] at hp
    rcases List.mem_append.mp hp with hp | hp
    · obtain ⟨q, hq, rfl⟩ := tups_mem hp
      exact hl2 q hq
    · refine hl p ?_
      simp only [List.mem_cons, List.mem_append, List.not_mem_nil, or_false] at hp ⊢
      rcases hp with (h | h) | h | h <;> simp [h]
theorem due_at {rows : List Row} {a b c : Row} {j : Nat} (h : j < rows.length + 1) : ∃ r, (rows ++ [a])[j]? = some r ∧ (rows ++ [a, b] ++ [c])[j]? = some r ∧ r ∈ rows ++ [a] := by
  have hl : j < (rows ++ [a]).length := by rw [List.length_append]; exact h
  refine ⟨(rows ++ [a])[j], List.getElem?_eq_getElem hl, ?_, List.getElem_mem hl⟩
  rw [show rows ++ [a, b] ++ [c] = (rows ++ [a]) ++ [b, c] by simp, List.getElem?_append_left hl, List.getElem?_eq_getElem hl]
theorem getD_of {l : List Value} {i : Nat} {v : Value} (h : l[i]? = some v) : l.getD i .none = v := by rw [List.getD, h]; rfl
theorem num_short {ah figs kd : List Nat} {bs number many lead at_ : Nat} (h : NumIs ah figs kd bs number many lead) : (numRow (ah ++ figs ++ kd) at_ number kd).Short := by
  refine ⟨by show ∀ c ∈ codes "int", c < 128; decide +kernel, h.small, fun k e => ?_⟩
  have h2 : ∀ k ∈ [] :: [] :: intKinds, ∀ c ∈ k, c < 128 := by decide
  have e : (if kd = [] then none else some kd) = some k := e
  split at e
  · cases e
  · obtain rfl := Option.some.inj e
    exact h2 _ h.kind
theorem Built.short {i : Nat} {text : List Nat} {rows : List Row} (h : Built i text rows) : ∀ r ∈ rows, r.Short := by
  induction h with
  | start => exact fun _ h => nomatch h
  | more _ hn _ _ ih =>
    intro r hr
    rcases List.mem_append.mp hr with hr | hr
    · exact ih r hr
    · rw [List.mem_singleton.mp hr]; exact num_short hn
theorem name_short {nm : List Nat} {at_ : Nat} (h : nm ∈ names) : (nameRow nm at_).Short :=
  ⟨by show ∀ c ∈ codes "name", c < 128; decide +kernel, (names_ok nm h).2.2.2.2.2.2, fun _ e => nomatch e⟩
theorem Built.kinds {i : Nat} {text : List Nat} {rows : List Row} (h : Built i text rows) : ∀ r ∈ rows, r.kind = codes "int" := by
  induction h with
  | start => exact fun _ h => nomatch h
  | more _ _ _ _ ih =>
    intro r hr
    rcases List.mem_append.mp hr with hr | hr
    · exact ih r hr
    · rw [List.mem_singleton.mp hr]; rfl
theorem kinds_ne : codes "int" ≠ codes "end" ∧ codes "name" ≠ codes "end" := by decide +kernel
theorem move_2h {h₀ h : Heap} {L : Addr} {y z a b c : Addr × Obj} {rest : List (Addr × Obj)} (N : News h₀ L h (y :: z :: a :: b :: c :: rest)) : News h₀ L h ([a, b, c] ++ (y :: z :: rest)) := fun p hp => N p (by
  simp only [List.mem_cons, List.mem_append, List.not_mem_nil, or_false] at hp ⊢
  rcases hp with (h | h | h) | h | h | h <;> simp [h])
theorem put_one {h₀ h : Heap} {L : Addr} {q : Addr × Obj} {news : List (Addr × Obj)} (N : News h₀ L h news) (hq : q ∈ news) : News h₀ L h (q :: news) := fun p hp => by
  rcases List.mem_cons.mp hp with rfl | hp
  · exact N _ hq
  · exact N p hp
theorem name_key : ∀ nm ∈ names, (([Str.ofString "fn", Str.ofString "Self", Str.ofString "_"].any fun x => x == S nm) = true → nm ∈ keywords) ∧ (([Str.ofString "fn", Str.ofString "Self", Str.ofString "_"].any fun x => x == S nm) = false → nm ∉ keywords) := by decide +kernel
theorem drop_3 {h₀ h : Heap} {L : Addr} {a b c : Addr × Obj} {rest : List (Addr × Obj)} (N : News h₀ L h (a :: b :: c :: rest)) : News h₀ L h rest := fun p hp => N p (.tail _ (.tail _ (.tail _ hp)))
section
variable {w : World} {dn un' : Nat} {f : Addr} {vs : List Value} {led ro : List (Addr × Obj)} {Out : List (Addr × Obj) → Value → List (Addr × Obj) → Prop} {Thr : Addr → Nat → Prop} {loose : List Str} {mean : ExcName → Option Value} {mg mb : Str → Option Value} {dp un : Nat} {gd : Option (List Code)} {cn : Str} {cs : Scope} {a : Addr} {ccd : Value} {cl : List (Str × Addr)} {outer : List Env} {A₀ : Around} {base h₀ : Heap} {L : Addr} {m : Str → Option Value} {s : Shared} {Q E : Value → Shared → Prop} {news : List (Addr × Obj)}
theorem SaysC.go (h : SaysC w dn un' f vs led ro Out) (B : Below A₀ base outer h₀) (F : Fr h₀ L s.heap m) (XB : (hd.heap_39 w.params).In base) (N : News h₀ L s.heap (led ++ news)) (hro : ∀ p ∈ ro, p ∈ news) (TB : Top topProg loose mean mg mb base) (D : KtsDicts (outer.filterMap (·.frame)) h₀) (hk : cs.kind = .function)
   (hd : dp + dn < recursionLimit) (hu : un + un' < cLine) (hsep : ∀ p ∈ led, ∀ q ∈ news, q.1 ≠ p.1)
   (hret : ∀ (r : Value) (led' : List (Addr × Obj)) (h₀' h' : Heap) (tk' : Nat), Out news r led' → KtsTurn (outer.filterMap (·.frame)) h₀ h₀' → Fr h₀' L h' m → News h₀' L h' (led' ++ news) → Below A₀ base outer h₀' → KtsDicts (outer.filterMap (·.frame)) h₀' → Q r { s with heap := h', toks := tk' }) :
   wpAny (model PySem.Challenge.pw_pf0162_01 w) (ktrTop dp un gd cn cs L a ccd cl outer) (call (.ref f) vs) Q E s := h B F XB N hro TB D hk hd hu hsep hret
theorem SaysR.go (h : SaysR w dn un' f vs led ro Out Thr) (B : Below A₀ base outer h₀) (F : Fr h₀ L s.heap m) (X : (hd.heap_39 w.params).In h₀) (N : News h₀ L s.heap (led ++ news)) (hro : ∀ p ∈ ro, p ∈ news) (T : Top topProg loose mean mg mb h₀) (hk : cs.kind = .function)
   (hd : dp + dn < recursionLimit) (hu : un + un' < cLine) (hsep : ∀ p ∈ led, ∀ q ∈ news, q.1 ≠ p.1)
   (hret : ∀ (r : Value) (led' : List (Addr × Obj)) (h' : Heap) (tk' : Nat), Out news r led' → Fr h₀ L h' m → News h₀ L h' (led' ++ news) → Q r { s with heap := h', toks := tk' })
   (hthrow : ∀ (C : Addr) (spot : Nat) (e : Addr) (G h' : Heap) (tk' : Nat), Thr C spot → Fr h₀ L G m → Thrown base G (envX cn cs L a ccd cl :: outer) C spot e (led ++ news) h' → G.UpToSlots h' → E (.ref e) { s with heap := h', toks := tk' }) :
   wpAny (model PySem.Challenge.pw_pf0162_01 w) (ktrTop dp un gd cn cs L a ccd cl outer) (call (.ref f) vs) Q E s := wpAny_call (h B F X N hro T hk hd hu hsep hret hthrow)
end
theorem row_turn {g h : Heap} {L src dl D c1 c2 : Addr} {so o1 o2 t : Obj} {nd : Nat} {vs : List Value} {tv : List (Addr × List Value)} {rest own : List (Addr × Obj)}
    (N : News g L h ((src, so) :: (dl, PySem.W.listOf ((⟨refsOf tv⟩ : Array Value).push (.ref D)) nd) :: (D, tupObj vs) :: (c2, o2) :: (c1, o1) :: (262, t) :: ((tupsOf tv ++ rest) ++ own))) :
    News g L h (((src, so) :: (dl, PySem.W.listOf ⟨refsOf (tv ++ [(D, vs)])⟩ nd) :: (c2, o2) :: (c1, o1) :: (262, t) :: (tupsOf (tv ++ [(D, vs)]) ++ rest)) ++ own) := by
  rw [show (⟨refsOf (tv ++ [(D, vs)])⟩ : Array Value) = (⟨refsOf tv⟩ : Array Value).push (.ref D) by simp [refsOf], show tupsOf (tv ++ [(D, vs)]) = tupsOf tv ++ [(D, tupObj vs)] by simp [tupsOf]]
  intro p hp
  refine N p ?_
  simp only [List.mem_cons, List.mem_append, List.not_mem_nil, or_false] at hp ⊢
  rcases hp with (h | h | h | h | h | ((h | h) | h)) | h <;> simp [h]
set_option maxHeartbeats 16000000 in
theorem row_right_says {w : World} {src : Addr} {a b n : Nat} {ta tb : Tok} {tl : List (Addr × Obj)} {ps : Array Value} :
  ∀ {loose : List Str} {mean : ExcName → Option Value} {mg mb : Str → Option Value} {dp un : Nat} {gd : Option (List Code)} {cn : Str} {cs : Scope} {ac : Addr} {ccd : Value} {cl : List (Str × Addr)} {outer : List Env} {A₀ : Around} {base h₀ : Heap} {L : Addr} {m : Str → Option Value} {s : Shared} {Q E : Value → Shared → Prop} {news : List (Addr × Obj)},
   Below A₀ base outer h₀ → Fr h₀ L s.heap m → (hd.heap_39 w.params).In base → News h₀ L s.heap ((src, srcObj a b ta tb n) :: (262, tabObj ps) :: (tl ++ news)) → Top topProg loose mean mg mb base → CodeHd base 266 262 → KtsDicts (outer.filterMap (·.frame)) h₀ → cs.kind = .function →
   dp + 40 < recursionLimit → un + 400 < cLine → (∀ p ∈ (262, tabObj ps) :: (tl ++ news), p.1 ≠ src) → (∀ p ∈ tl ++ news, p.1 ≠ 262) → RowTab ps tl →
   (∀ (ps' : Array Value) (tl' : List (Addr × Obj)) (h₀' h' : Heap) (tk' : Nat), RowTab ps' tl' → (tl' = tl ∨ ∀ p ∈ tl', ∀ q ∈ news, q.1 ≠ p.1) → KtsTurn (outer.filterMap (·.frame)) h₀ h₀' → Fr h₀' L h' m → News h₀' L h' ((262, tabObj ps') :: (tl' ++ news)) → Below A₀ base outer h₀' → KtsDicts (outer.filterMap (·.frame)) h₀' → Q (.bool true) { s with heap := h', toks := tk' }) →
   wpAny (model PySem.Challenge.pw_pf0162_01 w) (ktrTop dp un gd cn cs L ac ccd cl outer) (call (.ref 267) [.ref src]) Q E s := by
  intro loose mean mg mb dp un gd cn cs ac ccd cl outer A₀ base h₀ L m s Q E news B F XB N TB hcode D0 hk hd hu hsrc h262 htab hret
  have X := XB.keeps B.stays
  have T := TB.keeps B.stays
  refine wpAny_call ?_
  k_dflt (refine' code_defTC ?k1 ?k2 ?k3 ?k4 ?k5 ?kX ?kA ?kF ?kK ?k6 ?k7 ?k8 ?k9 ?kB ?kD ?_ ?c2 ?c3 ?c4; (case kA => exact rfl); (case kF => exact rfl); (case kK => assumption); (case k1 => exact B); (case k2 => exact F); (case k3 => exact X); (case k4 => exact N); (case k5 => exact T); (case kX => exact D0); (case k6 => k_is); (case k7 => k_is); (case k8 => ktr_room); (case k9 => exact BindsTo.of_eq rfl); (case kB => exact rfl); (case kD => decide +kernel); (case c2 => exact rfl); (case c3 => exact rfl); (case c4 => exact rfl); k_whole)
  intro g L' h₁ tk cells FG F' N' Y' B' X' T' D' l1
  clear N F B T X
  have h62 := neN (hsrc (262, tabObj ps) (.head _))
  dsimp only at h62
  have hc1 : ∀ p ∈ tl ++ news, p.1 ≠ L' + 1 := fun p hp => Nat.ne_of_lt (Nat.lt_succ_of_lt (l1 p (.tail _ (.tail _ hp))))
  have hc2 : ∀ p ∈ tl ++ news, p.1 ≠ L' + 1 + 1 := fun p hp => Nat.ne_of_lt (Nat.lt_succ_of_lt (Nat.lt_succ_of_lt (l1 p (.tail _ (.tail _ hp)))))
  (try k_lt l1); k_cells Y'; (try simp only [List.cons_append, List.nil_append] at N'); (try dsimp only); (try k_lift B'); (try k_fold)
  rename_i oc2 oc1 dc2 dc1
  refine fold_QE (env := envOfC (Str.ofString "_law_row_right") _ L' 267 (.ref 266)) fun Qk Ek hQ hPE => ?_
  k_steps
  refine Hold.go ?_
  (with_reducible rename Fr _ _ _ _ => F1); (with_reducible rename News _ _ _ _ => N1)
  refine wpAny_call (law_one_says ?hv ?hv2 B' F1 X' (pull_5 N1) (all1 (.head _)) T' rfl (by first | ktr_room | omega) (by first | ktr_units | omega) (sep_1 (cons_ne (neN (by walk_at "ad")) (cons_ne (neN (by walk_at "ad")) (cons_ne (neN (by walk_at "ad")) (cons_ne (neN (by walk_at "ad")) hsrc))))) ?_ (fun _ _ _ _ _ _ h => h.elim))
  case hv => show 1 ≤ 3; decide
  case hv2 => show 3 ≤ 1000; decide
  rintro r9 led9 h9 tk9 ⟨d, a2, b2, ta2, tb2, hd2, rfl, rfl⟩ F9 N9
  obtain ⟨t0, tt0, ht0, e9⟩ := texts3.get hd2
  rw [e9]
  replace N9 := drop_2nd N9
  dsimp only
  clear N1
  k_steps
  refine Hold.go ?_
  (with_reducible rename Fr _ _ _ _ => F1); (with_reducible rename News _ _ _ _ => N1)
  refine For_invVF (hE := hPE) F1 rfl rfl ?_
  k_steps
  refine Hold.go ?_
  (with_reducible rename Fr _ _ _ _ => F1); (with_reducible rename News _ _ _ _ => N1)
  rename IsRange _ _ _ _ _ _ _ _ => hr
  rename_i dl hA lA l2 hB lB D9 hC lC h3 h2 h1' o1 F8 N8 hd1 h5 tk5 t1 u1 v1 aa
  clear F8 N8 aa
  have hIn : ∀ q ∈ (src, srcObj a2 b2 ta2 tb2 n) :: (dl, PySem.W.listOf #[] 0) :: (L' + 1 + 1, oc2) :: (L' + 1, o1) :: (262, tabObj ps) :: (tl ++ news), q.1 ≠ h5.objs.size := fun q hq => Nat.ne_of_lt (Heap.lt_size (N1 q (.tail _ hq)).1)
  refine fr_range2 (σ := RowSt) (n := 3) (fun _ c => (src, srcObj c.a c.b c.ta c.tb n) :: (dl, PySem.W.listOf ⟨refsOf c.tv⟩ c.nd) :: (L' + 1 + 1, c.o2) :: (L' + 1, c.o1) :: (262, tabObj ps) :: (tupsOf c.tv ++ (tl ++ news)))
    (fun _ _ => [(Str.ofString "source", .ref src), (Str.ofString "due", .ref dl)]) (fun i c => RowP i src dl L' h5.objs.size c) ⟨t0, [], [], 0, a2, b2, ta2, tb2, o1, oc2, tt0⟩ rfl hr (by decide +kernel) F1 N1 (sub_skip sub_self) (allc rfl (all1 rfl)) ?start ?hsub ?hx ?turn ?done
  case start => exact ⟨.start ht0, .nil, hd1, ⟨_, dc2⟩, fun _ h => nomatch h⟩
  case hsub =>
    intro i c hP p hp
    show p.1 ≠ h5.objs.size
    simp only [List.mem_cons, List.mem_append] at hp
    rcases hp with rfl | rfl | rfl | rfl | rfl | hp | hp
    · exact hIn (src, srcObj a2 b2 ta2 tb2 n) (.head _)
    · exact hIn (dl, PySem.W.listOf #[] 0) (.tail _ (.head _))
    · exact hIn (L' + 1 + 1, oc2) (.tail _ (.tail _ (.head _)))
    · exact hIn (L' + 1, o1) (.tail _ (.tail _ (.tail _ (.head _))))
    · exact hIn (262, tabObj ps) (.tail _ (.tail _ (.tail _ (.tail _ (.head _)))))
    · obtain ⟨q, hq, rfl⟩ := tups_mem hp
      exact (hP.new q hq).2.2.2
    · exact hIn p (.tail _ (.tail _ (.tail _ (.tail _ (.tail _ (List.mem_append.mpr hp))))))
  case hx => exact fun _ _ => allc (show Str.ofString "source" ≠ Str.ofString "turn" by decide +kernel) (all1 (show Str.ofString "due" ≠ Str.ofString "turn" by decide +kernel))
  case turn =>
    rintro i t ⟨text, rows, tv, nd, a3, b3, ta3, tb3, oa, ob, tt⟩ own u h₁ tk₁ hi hP F₁ N₁ hs ⟨oI, hIown⟩
    clear F1 N1
    obtain ⟨hbuilt, hrows, hcell1, ⟨vb, hcell2⟩, hnew⟩ := hP
    dsimp only [List.cons_append] at hbuilt hrows hcell1 hcell2 hnew F₁ N₁ hs ⊢
    have wsrc : ∀ p ∈ (tupsOf tv ++ (tl ++ news)) ++ own, p.1 ≠ src := row_ne (fun q hq => Nat.ne_of_gt (hnew q hq).1) (fun p hp => hsrc p (.tail _ hp)) (hs (src, _) (.head _))
    have wdl : ∀ p ∈ (tupsOf tv ++ (tl ++ news)) ++ own, p.1 ≠ dl := row_ne (fun q hq => Nat.ne_of_gt (hnew q hq).2.1) (fun p hp => Nat.ne_of_lt (ktn_ltOf lA.2.2.2.2 p hp)) (hs (dl, _) (.tail _ (.head _)))
    have wc2 : ∀ p ∈ (tupsOf tv ++ (tl ++ news)) ++ own, p.1 ≠ L' + 1 + 1 := row_ne (fun q hq => Nat.ne_of_gt (hnew q hq).2.2.1) hc2 (hs (L' + 1 + 1, _) (.tail _ (.tail _ (.head _))))
    have wc1 : ∀ p ∈ (tupsOf tv ++ (tl ++ news)) ++ own, p.1 ≠ L' + 1 := row_ne (fun q hq => Nat.ne_of_gt (Nat.lt_of_succ_lt (hnew q hq).2.2.1)) hc1 (hs (L' + 1, _) (.tail _ (.tail _ (.tail _ (.head _)))))
    have w262 : ∀ p ∈ (tupsOf tv ++ (tl ++ news)) ++ own, p.1 ≠ 262 := row_ne (fun q hq => Nat.ne_of_gt (Nat.lt_trans (Nat.lt_add_right 2 l1.2.1) (hnew q hq).2.2.1)) h262 (hs (262, _) (.tail _ (.tail _ (.tail _ (.tail _ (.head _))))))
    have wI : (h5.objs.size, oI) ∈ (tupsOf tv ++ (tl ++ news)) ++ own := List.mem_append_right _ hIown
    have wsub : ∀ p ∈ (tupsOf tv ++ (tl ++ news)) ++ own, p ∈ (tupsOf tv ++ (tl ++ news)) ++ own := fun _ h => h
    generalize hW : (tupsOf tv ++ (tl ++ news)) ++ own = W at N₁ wsrc wdl wc1 wc2 w262 wI
    (try k_fold)
    k_steps
    refine Hold.go ?_
    (with_reducible rename Fr _ _ _ _ => F2); (with_reducible rename News _ _ _ _ => N2)
    refine law_number_says B' F2 X' N2 T' rfl (by first | ktr_room | omega) (by first | ktr_units | omega) (sep_1 (cons_ne (neN (by walk_at "ad")) (cons_ne (neN (by walk_at "ad")) (cons_ne (neN (by walk_at "ad")) (cons_ne (hsrc (262, tabObj ps) (.head _)) wsrc))))) ?_
    rintro r9 led9 h9 tk9 ⟨tr, ah, figs, kd, bs, number, many, lead, t1, t2, t3, t4, a4, b4, ta4, tb4, hnum, rfl, hltr, hsrt, rfl⟩ F9 N9
    have hsrt' := ltN hsrt
    k_lt hltr
    have htlen := hnum.len
    have hxlen := hbuilt.len
    generalize htold : ah ++ figs ++ kd = told at *
    dsimp only [List.cons_append, List.nil_append] at N9 ⊢
    clear N2
    k_steps
    · (with_reducible rename Fr _ _ _ _ => F2); (with_reducible rename News _ _ _ _ => N2)
      rename_i hA hB o3 d3 hC hD hE tkA hov
      have hover : ¬ many ≤ 40 := by omega
      have htlW : ∀ p ∈ tl, p ∈ W := fun p hp => by
        rw [← hW]
        exact List.mem_append_left _ (List.mem_append_right _ (List.mem_append_left _ hp))
      have hnewsW : ∀ p ∈ news, p ∈ W := fun p hp => by
        rw [← hW]
        exact List.mem_append_left _ (List.mem_append_right _ (List.mem_append_right _ hp))
      refine Hold.go ?_
      refine kla_eval rfl ?_
      refine lam_made (ps := ps) (tl := tl) (P := 262) (c := 266) F2 (pull_6 N2) (cons_ne (neN (by walk_at "ad")) (cons_ne (neN (by walk_at "ad")) (cons_ne (neN (by walk_at "ad")) (cons_ne (neN (by walk_at "ad")) (cons_ne (neN (by walk_at "ad")) w262))))) T' (hcode.keeps B'.stays) rfl htab (fun p hp => .tail _ (.tail _ (.tail _ (.tail _ (.tail _ (htlW p hp)))))) rfl fun f c' oc vsc tq ctv h' tk' ofn hofn F3 N3 hc' hcc hoc hvc => ?_
      have hcc' : [(c', oc)] = tl ∨ ∀ p ∈ [(c', oc)], ∀ q ∈ news, q.1 ≠ p.1 := by
        rcases hcc with h | h
        · exact .inl (tab_same htab h).symm
        · exact .inr (all1 fun q hq => Nat.ne_of_lt (h q (.tail _ (.tail _ (.tail _ (.tail _ (.tail _ (hnewsW q hq))))))))
      clear hcc
      dsimp only at N3
      clear F2 N2
      k_steps
      refine Hold.go ?_
      (with_reducible rename Fr _ _ _ _ => F4); (with_reducible rename News _ _ _ _ => N4)
      have hlam : SaysR w 12 130 f [] [] [(f, ofn), (c', oc), (L' + 1 + 1, o3), (L' + 1, oa)] (fun _ _ _ => False) (fun C spot => C = 52 ∧ spot = text.length) := by
        obtain ⟨i0, hsk, htk⟩ := built_over hbuilt hnum hover
        rw [htold] at hsk htk
        clear F4 N4
        clear hret hIn hs hIown B' X' T' D' hnewsW htlW wsub wI w262 wc1 wc2 wdl wsrc l1 lA lB lC htab hc1 hc2 hsrc h262 D0 TB XB hk hd hu hltr
        subst hofn
        intro loose mean mg mb dp un gd cn cs ac ccd cl outer A₀ base h₀ L m s Q E news B F X N hro T hkf hd hu hsep hret hthrow
        replace N := put_ro N hro
        dsimp only [List.cons_append, List.nil_append] at N
        refine kla_code B F X N T rfl rfl hkf (.head _) (codeRec_news N (.tail _ (.head _)) hoc hvc) (by ktr_room) rfl (locs rfl) ?_ rfl rfl rfl (by decide)
        intro g' L2 h2 FG2 F2 N2 B2 X2 T2
        (try dsimp only); (try k_lift B2); (try k_fold)
        k_steps
        refine Hold.go ?_
        refine r_add (x := text) (y := told) (by walk_at "om") ?_
        intro ty ky
        k_steps
        refine Hold.go ?_
        (with_reducible rename Fr _ _ _ _ => F5); (with_reducible rename News _ _ _ _ => N5)
        have hrl := hbuilt.rows_len
        have hsm := app_small hbuilt.small hnum.small
        rw [htold] at hsm
        refine read_words_says (rows := rows) (by rw [List.length_append]; omega) hsm hsk htk (by walk_at "om") B2 F5 X2 N5 T2 rfl (by first | ktr_room | omega) (by first | ktr_units | omega) (fun _ h => nomatch h) ?_ ?_
        · rintro r9 led9 h9 tk9 ⟨hf, _⟩ F9 N9
          cases hf
        · rintro C spot e9 G h9 tk9 ⟨rfl, hm9⟩ F9 R9 sm9
          show wpAny _ _ (leaving _ _) _ _ _
          refine thrown_leave B2 F9 R9 sm9 (sub_skip (sub_skip (sub_skip (sub_skip sub_self)))) rfl fun h4 R4 sm4 => ?_
          exact hthrow 52 _ e9 _ h4 _ ⟨rfl, (Option.some.inj hm9).symm⟩ FG2 R4 sm4
      refine law_fault_says hlam (fun C sp h => .inl h.1) (fun h X9 hm => keeps_F h ⟨_, _, _, _, (hm _ (.head _)).trans (congrArg some hofn)⟩) B' F4 XB N4 ?hro TB D' rfl (by first | ktr_room | omega) (by first | ktr_units | omega) (fun _ h => nomatch h) ?_
      case hro =>
        intro p hp
        simp only [List.mem_cons, List.not_mem_nil, or_false] at hp ⊢
        rcases hp with h | h | h | h <;> simp [h]
      rintro r9 led9 g2 h9 tk9 hO T2 F9 N9 B2 D2
      rcases hO with ⟨_, rv, hso⟩ | ⟨C, sp, ts9, ⟨_, hsp⟩, rfl, rfl⟩
      · exact hso.elim
      subst hsp
      have X2 := XB.keeps B2.stays
      have T2' := TB.keeps B2.stays
      clear B' X' T' D' F4 N4
      dsimp only [List.cons_append, List.nil_append] at N9 ⊢
      k_steps
      rename Fr _ _ _ _ => F7
      rename News _ _ _ _ => N7
      have hT : KtsTurn (outer.filterMap (·.frame)) h₀ h₀ := .refl
      show Qk _ _
      refine hQ _ _ ?_
      refine ⟨g2, L', _, (262, tabObj #[rawInt (192 : Nat), rawInt (30 : Nat), .ref c']) :: ([(c', oc)] ++ news), T2, F7, sub_drop N7 ?_, fun h₀' T1 F1 N1 B1 D1 => ?_⟩
      · intro p hp
        simp only [List.mem_cons, List.mem_append, List.not_mem_nil, or_false] at hp ⊢
        rcases hp with h | h | h
        · simp [h]
        · simp [h]
        · have := hnewsW p h
          simp [this]
      · rw [show ((text.length : Int) == (text.length : Int)) = true from beq_self_eq_true _]
        exact hret _ _ _ _ _ (.inr ⟨c', oc, vsc, tq, rfl, rfl, hc', hoc, hvc⟩) hcc' T1 F1 N1 B1 D1
    · refine Hold.go ?_
      (with_reducible rename Fr _ _ _ _ => F2); (with_reducible rename News _ _ _ _ => N2)
      have hmany : many ≤ 40 := by omega
      have hvlen : tv.length = i := by rw [hrows.len, hbuilt.rows_len]
      refine append_led (its := ⟨refsOf tv⟩) (n := nd) (D := dl) F2 N2 (.tail _ (.tail _ (.tail _ (.head _)))) (sub_keep (sub_keep (sub_skip (sub_skip sub_self)))) (cons_ne (neN (by walk_at "ad")) (cons_ne (neN (by walk_at "ad")) (cons_ne (neN (by walk_at "ad")) (cons_ne (neN (by walk_at "ad")) (cons_ne (neN (by walk_at "ad")) wdl))))) (by show (refsOf tv).length ≤ sizeLine; rw [List.length_map]; exact Nat.le_trans (show tv.length ≤ 10 by omega) (by decide)) fun h3 F3 N3 => ?_
      dsimp only
      clear F2 N2
      k_steps
      refine Hold.go ?_
      refine r_add (x := text) (y := told) (by walk_at "om") ?_
      intro ty ky
      k_steps
      refine Hold.go ?_
      (with_reducible rename Fr _ _ _ _ => F4); (with_reducible rename News _ _ _ _ => N4)
      refine law_gap_says B' F4 X' (pull_3k N4) T' rfl (by first | ktr_room | omega) (by first | ktr_units | omega) (sep_1 (cons_ne (neN (by walk_at "ad")) (cons_ne (neN (by walk_at "ad")) (cons_ne (neN (by walk_at "ad")) (cons_ne (neN (by walk_at "ad")) (cons_ne (neN (by walk_at "ad")) wsrc)))))) ?_
      rintro r9 led9 h9 tk9 ⟨gp, tg, a5, b5, ta5, tb5, hgp, rfl, rfl⟩ F9 N9
      dsimp only [List.cons_append, List.nil_append] at N9 ⊢
      clear N4
      have hgl := gaps_len gp hgp
      k_steps
      refine Hold.go ?_
      refine r_add (x := text ++ told) (y := gp) (by rw [List.length_append]; omega) ?_
      intro tz kz
      k_steps
      rename Fr _ _ _ _ => F7
      rename News _ _ _ _ => N7
      rename (_ = Data.cell (some (Value.str (S (text ++ told ++ gp)) tz))) => hc1'
      rename (_ = Data.cell (some (Value.str (S told) _))) => hc2'
      rename (_ ∧ _ ∧ _ ∧ _ ∧ _ ∧ _ ∧ AllLt _ W) => lD
      have hbt := Built.more hbuilt hnum hmany hgp
      rw [htold] at hbt
      have hDI := ktn_ltOf lD.2.2.2.2.2.2 _ wI
      rw [← hW] at N7
      refine FEnd.intro (σ := RowSt) ⟨text ++ told ++ gp, rows ++ [numRow told text.length number kd], tv ++ [(_, _)], nd + 1, a5, b5, ta5, tb5, _, _, tz⟩ F7 (row_turn (vs := [_, _, _, _, _]) N7) sub_self (allc rfl (all1 rfl)) ⟨hbt, hrows.snoc ⟨_, _, _, _, _, by rw [lit_int]; rfl⟩, hc1', ⟨_, hc2'⟩, fun p hp => ?_⟩
      rcases List.mem_append.mp hp with hp | hp
      · exact hnew p hp
      · rw [List.mem_singleton.mp hp]
        exact ⟨lD.1, lD.2.2.1, lD.2.2.2.1, Nat.ne_of_gt hDI⟩
  case done =>
    rintro ⟨text, rows, tv, nd, a3, b3, ta3, tb3, oa, ob, tt⟩ u h₁ tk₁ hP F₁ N₁
    clear F1 N1 hIn
    obtain ⟨hbuilt, hrows, hcell1, ⟨vb, hcell2⟩, hnew⟩ := hP
    dsimp only [List.cons_append] at hbuilt hrows hcell1 hcell2 hnew F₁ N₁ ⊢
    have vsrc : ∀ p ∈ tupsOf tv, p.1 ≠ src := fun p hp => by
      obtain ⟨q, hq, rfl⟩ := tups_mem hp
      exact Nat.ne_of_gt (hnew q hq).1
    have vdl : ∀ p ∈ tupsOf tv, p.1 ≠ dl := fun p hp => by
      obtain ⟨q, hq, rfl⟩ := tups_mem hp
      exact Nat.ne_of_gt (hnew q hq).2.1
    have vc1 : ∀ p ∈ tupsOf tv, p.1 ≠ L' + 1 := fun p hp => by
      obtain ⟨q, hq, rfl⟩ := tups_mem hp
      exact Nat.ne_of_gt (Nat.lt_of_succ_lt (hnew q hq).2.2.1)
    have app_ne : ∀ {y : Addr} {l k : List (Addr × Obj)}, (∀ p ∈ l, p.1 ≠ y) → (∀ p ∈ k, p.1 ≠ y) → ∀ p ∈ l ++ k, p.1 ≠ y := fun h1 h2 p hp => (List.mem_append.mp hp).elim (h1 p) (h2 p)
    have wsrc : ∀ p ∈ tupsOf tv ++ (tl ++ news), p.1 ≠ src := app_ne vsrc (fun p hp => hsrc p (.tail _ hp))
    have wdl : ∀ p ∈ tupsOf tv ++ (tl ++ news), p.1 ≠ dl := app_ne vdl (fun p hp => Nat.ne_of_lt (ktn_ltOf lA.2.2.2.2 p hp))
    have wc1 : ∀ p ∈ tupsOf tv ++ (tl ++ news), p.1 ≠ L' + 1 := app_ne vc1 hc1
    have wsub : ∀ p ∈ (262, tabObj ps) :: (tl ++ news), p ∈ (262, tabObj ps) :: (tupsOf tv ++ (tl ++ news)) := sub_keep (fun p hp => List.mem_append_right _ hp)
    have wtup : ∀ p ∈ tupsOf tv, p ∈ tupsOf tv ++ (tl ++ news) := fun p hp => List.mem_append_left _ hp
    generalize hW : tupsOf tv ++ (tl ++ news) = W at N₁ wsrc wdl wc1 wsub wtup
    have hxlen := hbuilt.len
    have hvlen : tv.length = 3 := by rw [hrows.len, hbuilt.rows_len]
    (try k_fold)
    k_steps
    refine Hold.go ?_
    (with_reducible rename Fr _ _ _ _ => F2); (with_reducible rename News _ _ _ _ => N2)
    refine wpAny_call (law_one_says ?hv ?hv2 B' F2 X' (swap_10 N2) (all1 (.head _)) T' rfl (by first | ktr_room | omega) (by first | ktr_units | omega) (sep_1 (cons_ne (neN (by walk_at "ad")) (cons_ne (neN (by walk_at "ad")) (cons_ne (neN (by walk_at "ad")) (cons_ne (neN (by walk_at "ad")) (cons_ne (hsrc (262, tabObj ps) (.head _)) wsrc)))))) ?_ (fun _ _ _ _ _ _ h => h.elim))
    case hv => show 1 ≤ 6; decide
    case hv2 => show 6 ≤ 1000; decide
    rintro r9 led9 h9 tk9 ⟨d, a4, b4, ta4, tb4, hd4, rfl, rfl⟩ F9 N9
    obtain ⟨nm, tnm, hnm, e9⟩ := TextsAre.get (ws := names) (.cons (by decide +kernel) (.cons (by decide +kernel) (.cons (by decide +kernel) (.cons (by decide +kernel) (.cons (by decide +kernel) (.cons (by decide +kernel) .nil)))))) hd4
    rw [e9]
    replace N9 := drop_2nd N9
    dsimp only
    clear N2
    k_steps
    refine Hold.go ?_
    (with_reducible rename Fr _ _ _ _ => F2); (with_reducible rename News _ _ _ _ => N2)
    refine wpAny_call (law_one_says ?hv ?hv2 B' F2 X' (swap_10 N2) (all1 (.head _)) T' rfl (by first | ktr_room | omega) (by first | ktr_units | omega) (sep_1 (cons_ne (neN (by walk_at "ad")) (cons_ne (neN (by walk_at "ad")) (cons_ne (neN (by walk_at "ad")) (cons_ne (neN (by walk_at "ad")) (cons_ne (hsrc (262, tabObj ps) (.head _)) wsrc)))))) ?_ (fun _ _ _ _ _ _ h => h.elim))
    case hv => show 1 ≤ 4; decide
    case hv2 => show 4 ≤ 1000; decide
    rintro r9 led9 h9 tk9 ⟨d, a5, b5, ta5, tb5, hd5, rfl, rfl⟩ F9 N9
    obtain ⟨sg, tsg, hsg, e9⟩ := TextsAre.get (ws := angles) (.cons (by decide +kernel) (.cons (by decide +kernel) (.cons (by decide +kernel) (.cons (by decide +kernel) .nil)))) hd5
    rw [e9]
    replace N9 := drop_2nd N9
    dsimp only
    clear N2
    k_steps
    refine Hold.go ?_
    (with_reducible rename Fr _ _ _ _ => F2); (with_reducible rename News _ _ _ _ => N2)
    refine append_led (its := ⟨refsOf tv⟩) (n := nd) (D := dl) F2 N2 (.tail _ (.tail _ (.tail _ (.head _)))) (sub_keep (sub_skip (sub_keep (sub_skip sub_self)))) (cons_ne (neN (by walk_at "ad")) (cons_ne (neN (by walk_at "ad")) (cons_ne (neN (by walk_at "ad")) (cons_ne (neN (by walk_at "ad")) (cons_ne (neN (by walk_at "ad")) wdl))))) (by show (refsOf tv).length ≤ sizeLine; rw [List.length_map]; exact Nat.le_trans (show tv.length ≤ 10 by omega) (by decide)) fun h3 F3 N3 => ?_
    dsimp only
    clear F2 N2
    have hnl := (names_ok nm hnm).2.2.2.2.2.1
    k_steps
    refine Hold.go ?_
    refine r_add (x := text) (y := nm) (by walk_at "om") ?_
    intro ty ky
    k_steps
    refine Hold.go ?_
    (with_reducible rename Fr _ _ _ _ => F2); (with_reducible rename News _ _ _ _ => N2)
    refine wpAny_call (law_one_says ?hv ?hv2 B' F2 X' (pull_4 N2) (all1 (.head _)) T' rfl (by first | ktr_room | omega) (by first | ktr_units | omega) (sep_1 (cons_ne (neN (by walk_at "ad")) (cons_ne (neN (by walk_at "ad")) (cons_ne (neN (by walk_at "ad")) (cons_ne (neN (by walk_at "ad")) (cons_ne (neN (by walk_at "ad")) (cons_ne (hsrc (262, tabObj ps) (.head _)) wsrc))))))) ?_ (fun _ _ _ _ _ _ h => h.elim))
    case hv => show 1 ≤ 3; decide
    case hv2 => show 3 ≤ 1000; decide
    rintro r9 led9 h9 tk9 ⟨d, a6, b6, ta6, tb6, hd6, rfl, rfl⟩ F9 N9
    obtain ⟨gp, tgp, hgp, e9⟩ := texts3.get hd6
    rw [e9]
    replace N9 := drop_2nd N9
    dsimp only
    clear N2
    have hgl : gp.length ≤ 1 := (by decide : ∀ t ∈ ([[], [32], [13]] : List (List Nat)), t.length ≤ 1) gp hgp
    k_steps
    refine Hold.go ?_
    refine r_add (x := text ++ nm) (y := gp) (by rw [List.length_append]; omega) ?_
    intro tz kz
    k_steps
    refine Hold.go ?_
    have hsl := angles_len sg hsg
    refine r_add (x := text ++ nm ++ gp) (y := sg) (by rw [List.length_append, List.length_append]; omega) ?_
    intro tw kw
    k_steps
    refine Hold.go ?_
    (with_reducible rename Fr _ _ _ _ => F2); (with_reducible rename News _ _ _ _ => N2)
    obtain ⟨i0, hsk, htk⟩ := built_whole hbuilt hnm hgp hsg
    have hrl := hbuilt.rows_len
    have hsmall : ∀ c ∈ text ++ nm ++ gp ++ sg, c < 128 := app_small (app_small (app_small hbuilt.small (names_ok nm hnm).2.2.2.2.2.2) (few_small gp hgp)) (angles_chars sg hsg)
    refine read_words_says (by simp only [List.length_append]; omega) hsmall hsk htk (by rw [List.length_append, hrl]; show 3 + 2 ≤ 1000; decide) B' F2 X' N2 T' rfl (by first | ktr_room | omega) (by first | ktr_units | omega) (fun _ h => nomatch h) ?_ ?_
    case refine_2 =>
      rintro C spot e9 G h9 tk9 ⟨rfl, hm9⟩ F9 R9 sm9
      cases hm9
    rintro r9 led9 h9 tk9 ⟨_, x, dx, D, cc, ta7, tb7, tc7, tv2, rfl, rfl, hrows2, hdx, hxD, hnewx, htvx⟩ F9 N9
    dsimp only [List.cons_append, List.nil_append] at N9 ⊢
    clear N2
    k_steps
    refine Hold.go ?_
    (with_reducible rename Fr _ _ _ _ => F2); (with_reducible rename News _ _ _ _ => N2)
    rename_i D3 hZ1 lD3 l7 hZ2 lz hZ3 tkz hZ4 oc1 hoc1 tkz2 hnn hZ5
    obtain ⟨tvd, R, hrd, N3, hRx, hdl, hc1x, hR2, hRd, hRt⟩ := due_led (r := nameRow nm text.length) (vs := [_, _, _, _, _]) N2 hW hrows ⟨_, _, _, 0, 0, by rw [lit_name]; rfl⟩ htvx hnewx
    have hdl := ltN hdl
    have hc1x := ltN hc1x
    have hdx := ltN hdx
    have hxD := ltN hxD
    clear N2 lD3 lz hnewx htvx wsub wtup hrows
    refine For_invVF (hE := hPE) F2 rfl rfl ?_
    k_steps
    refine Hold.go ?_
    (with_reducible rename Fr _ _ _ _ => F1); (with_reducible rename News _ _ _ _ => N1)
    rename IsRange _ _ _ _ _ _ _ _ => hr
    rename_i h6 tk6 u8 u9 u10 aa
    clear aa
    have hIn : ∀ q ∈ (x, instObj 200 dx) :: (dx, hereDict w D 0 ta7 tb7 tc7) :: (D, PySem.W.listOf ⟨refsOf tv2⟩ cc) :: (dl, PySem.W.listOf ⟨refsOf tvd⟩ (nd + 1)) :: (L' + 1, oc1) :: R, q.1 ≠ h6.objs.size := fun q hq => Nat.ne_of_lt (Heap.lt_size (N1 q hq).1)
    have n1 : ∀ p ∈ R, p.1 ≠ x := fun p hp => Nat.ne_of_lt (Nat.lt_trans (hRx p hp) hdx)
    have n2 : ∀ p ∈ R, p.1 ≠ dx := fun p hp => Nat.ne_of_lt (hRx p hp)
    have n3 : ∀ p ∈ R, p.1 ≠ D := fun p hp => Nat.ne_of_lt (Nat.lt_trans (Nat.lt_trans (hRx p hp) hdx) hxD)
    refine fr_range2 (σ := Tok) (n := 3) (fun i c => (x, instObj 200 dx) :: (dx, hereDict w D i ta7 tb7 c) :: (D, PySem.W.listOf ⟨refsOf tv2⟩ cc) :: (dl, PySem.W.listOf ⟨refsOf tvd⟩ (nd + 1)) :: (L' + 1, oc1) :: R)
      (fun _ _ => [(Str.ofString "here", .ref x), (Str.ofString "name", .str (S nm) tnm), (Str.ofString "sign", .str (S sg) tsg), (Str.ofString "due", .ref dl)]) (fun _ _ => True) tc7 rfl hr (by decide +kernel) F1 N1 sub_self (allc rfl (allc rfl (allc rfl (all1 rfl)))) True.intro ?hsub ?hx ?turn ?done
    case hsub =>
      intro i c _ p hp
      simp only [List.mem_cons] at hp
      rcases hp with rfl | rfl | rfl | rfl | rfl | hp
      · exact hIn (x, instObj 200 dx) (.head _)
      · exact hIn (dx, hereDict w D 0 ta7 tb7 tc7) (.tail _ (.head _))
      · exact hIn _ (.tail _ (.tail _ (.head _)))
      · exact hIn _ (.tail _ (.tail _ (.tail _ (.head _))))
      · exact hIn _ (.tail _ (.tail _ (.tail _ (.tail _ (.head _)))))
      · exact hIn p (.tail _ (.tail _ (.tail _ (.tail _ (.tail _ hp)))))
    case hx => exact fun _ _ => allc (show Str.ofString "here" ≠ Str.ofString "at" by decide +kernel) (allc (show Str.ofString "name" ≠ Str.ofString "at" by decide +kernel) (allc (show Str.ofString "sign" ≠ Str.ofString "at" by decide +kernel) (all1 (show Str.ofString "due" ≠ Str.ofString "at" by decide +kernel))))
    case turn =>
      rintro i t tc own u h₁ tk₁ hi _ F₁ N₁ hs ⟨oI, hIown⟩
      clear F1 N1
      dsimp only [List.cons_append] at F₁ N₁ hs ⊢
      have w1 : ∀ p ∈ R ++ own, p.1 ≠ x := app_ne n1 (hs (x, _) (.head _))
      have w2 : ∀ p ∈ R ++ own, p.1 ≠ dx := app_ne n2 (hs (dx, _) (.tail _ (.head _)))
      have w3 : ∀ p ∈ R ++ own, p.1 ≠ D := app_ne n3 (hs (D, _) (.tail _ (.tail _ (.head _))))
      have wR : ∀ p ∈ R, p ∈ R ++ own := fun p hp => List.mem_append_left _ hp
      have wsub2 : ∀ p ∈ R ++ own, p ∈ R ++ own := fun _ h => h
      generalize hW2 : R ++ own = W2 at N₁ w1 w2 w3 wR
      have hv2 : (refsOf tv2).length = 6 := by
        rw [List.length_map, hrows2.len, List.length_append, List.length_append, hrl]; rfl
      have hvd : (refsOf tvd).length = 4 := by
        rw [List.length_map, hrd.len, List.length_append, hrl]; rfl
      have hshort : ∀ r ∈ rows ++ [nameRow nm text.length], r.Short := fun r hr => by
        rcases List.mem_append.mp hr with hr | hr
        · exact hbuilt.short r hr
        · rw [List.mem_singleton.mp hr]; exact name_short hnm
      obtain ⟨ri, ei1, ei2, ei3⟩ := due_at (a := nameRow nm text.length) (b := signRow sg (text ++ nm ++ gp).length) (c := endRow (text ++ nm ++ gp ++ sg).length) (show i < rows.length + 1 by omega)
      obtain ⟨rj, ej1, ej2, ej3⟩ := due_at (a := nameRow nm text.length) (b := signRow sg (text ++ nm ++ gp).length) (c := endRow (text ++ nm ++ gp ++ sg).length) (show i + 1 < rows.length + 1 by omega)
      obtain ⟨ti, vi, gi, wi, mi⟩ := hrows2.get ei2
      obtain ⟨tj, vj, gj, wj, mj⟩ := hrows2.get ej2
      obtain ⟨di, zi, hi1, hi2, hi3⟩ := hrd.get ei1
      obtain ⟨dj, zj, hj1, hj2, hj3⟩ := hrd.get ej1
      (try k_fold)
      k_steps
      refine Hold.go ?_
      (with_reducible rename Fr _ _ _ _ => F2); (with_reducible rename News _ _ _ _ => N2)
      show wpAny _ _ (call (Value.ref 161) [.ref x]) _ _ _
      refine peek_says (tt := 0) (.inl ⟨rfl, rfl⟩) (by walk_at "om") (by walk_at "om") hdx hxD B' F2 X' N2 T' rfl (by first | ktr_room | omega) (by first | ktr_units | omega) (Off.sep (Off.old hdl hdx hxD (Off.old hc1x hdx hxD (Off.all w1 w2 w3)))) ?_
      rintro r9 led9 h9 tk9 ⟨rfl, rfl⟩ F9 N9
      rw [hv2, show min (i + 0) (6 - 1) = i by omega, getD_of gi]
      dsimp only [List.cons_append, List.nil_append] at N9
      clear N2
      k_steps
      refine Hold.go ?_
      (with_reducible rename Fr _ _ _ _ => F2); (with_reducible rename News _ _ _ _ => N2)
      refine item_litK (vs := refsOf tvd) (v := .ref di) (N2.isList (.tail _ (.tail _ (.tail _ (.head _))))) (by walk_at "om") (by walk_at "om") (by rw [Int.toNat_natCast]; exact hi1) ?_
      k_steps
      refine Hold.go ?_
      refine data_ne (d := rowData ri) (reads_row (N2 (ti, tupObj vi) (.tail _ (.tail _ (.tail _ (.tail _ (.tail _ (wR _ (hR2 _ mi)))))))).1 wi) (reads_row (N2 (di, tupObj zi) (.tail _ (.tail _ (.tail _ (.tail _ (.tail _ (wR _ (hRd _ hi3)))))))).1 hi2) (rowData_shaped _ (hshort ri ei3)) (by first | ktr_units | omega) ?_
      k_steps
      refine Hold.go ?_
      (with_reducible rename Fr _ _ _ _ => F3); (with_reducible rename News _ _ _ _ => N3)
      show wpAny _ _ (call (Value.ref 161) [.ref x, _]) _ _ _
      refine peek_says (a := 1) (.inr rfl) (by walk_at "om") (by walk_at "om") hdx hxD B' F3 X' N3 T' rfl (by first | ktr_room | omega) (by first | ktr_units | omega) (Off.sep (Off.old hdl hdx hxD (Off.old hc1x hdx hxD (Off.all w1 w2 w3)))) ?_
      rintro r9 led9 h9 tk9 ⟨rfl, rfl⟩ F9 N9
      rw [hv2, show min (i + 1) (6 - 1) = i + 1 by omega, getD_of gj]
      dsimp only [List.cons_append, List.nil_append] at N9
      clear N3
      k_steps
      refine Hold.go ?_
      (with_reducible rename Fr _ _ _ _ => F2); (with_reducible rename News _ _ _ _ => N2)
      refine item_litK (vs := refsOf tvd) (v := .ref dj) (N2.isList (.tail _ (.tail _ (.tail _ (.head _))))) (by walk_at "om") (by walk_at "om") (by rw [tn1]; exact hj1) ?_
      k_steps
      refine Hold.go ?_
      refine data_ne (d := rowData rj) (reads_row (N2 (tj, tupObj vj) (.tail _ (.tail _ (.tail _ (.tail _ (.tail _ (wR _ (hR2 _ mj)))))))).1 wj) (reads_row (N2 (dj, tupObj zj) (.tail _ (.tail _ (.tail _ (.tail _ (.tail _ (wR _ (hRd _ hj3)))))))).1 hj2) (rowData_shaped _ (hshort rj ej3)) (by first | ktr_units | omega) ?_
      k_steps
      refine Hold.go ?_
      (with_reducible rename Fr _ _ _ _ => F3); (with_reducible rename News _ _ _ _ => N3)
      have hki : ri.kind ≠ codes "end" := by
        rcases List.mem_append.mp ei3 with hr | hr
        · rw [hbuilt.kinds ri hr]; exact kinds_ne.1
        · rw [List.mem_singleton.mp hr]; exact kinds_ne.2
      refine wpAny_call (take_says (k := i) (t := ti) (vs := vi) (row := ri) (by walk_at "om") (by walk_at "om") hdx hxD (by walk_at "om") (by rw [hv2, show min (i + 0) (6 - 1) = i by omega, getD_of gi]) wi B' F3 X' N3 (all1 (.tail _ (.tail _ (wR _ (hR2 _ mi))))) T' rfl (by first | ktr_room | omega) (by first | ktr_units | omega) (Off.sep (Off.old hdl hdx hxD (Off.old hc1x hdx hxD (Off.all w1 w2 w3)))) ?_ (fun _ _ _ _ _ _ h => h.elim))
      rintro r9 led9 h9 tk9 ⟨rfl, tc', rfl⟩ F9 N9
      rw [if_neg hki] at N9
      dsimp only [List.cons_append, List.nil_append] at N9
      clear N3
      k_steps
      refine Hold.go ?_
      (with_reducible rename Fr _ _ _ _ => F2); (with_reducible rename News _ _ _ _ => N2)
      refine item_litK (vs := refsOf tvd) (v := .ref di) (N2.isList (.tail _ (.tail _ (.tail _ (.head _))))) (by walk_at "om") (by walk_at "om") (by rw [Int.toNat_natCast]; exact hi1) ?_
      k_steps
      refine Hold.go ?_
      refine data_ne (d := rowData ri) (reads_row (N2 (ti, tupObj vi) (.tail _ (.tail _ (.tail _ (.tail _ (.tail _ (wR _ (hR2 _ mi)))))))).1 wi) (reads_row (N2 (di, tupObj zi) (.tail _ (.tail _ (.tail _ (.tail _ (.tail _ (wR _ (hRd _ hi3)))))))).1 hi2) (rowData_shaped _ (hshort ri ei3)) (by first | ktr_units | omega) ?_
      k_steps
      rename Fr _ _ _ _ => F7
      rename News _ _ _ _ => N7
      rw [← hW2] at N7
      exact FEnd.intro (σ := Tok) tc' F7 N7 sub_self (allc rfl (allc rfl (allc rfl (all1 rfl)))) True.intro
    case done =>
      rintro tc u h₁ tk₁ _ F₁ N₁
      clear F1 N1
      dsimp only [List.cons_append] at F₁ N₁ ⊢
      have hxl3 : (text ++ nm ++ gp).length ≤ 1000000 := by rw [List.length_append, List.length_append]; omega
      have hv2 : (refsOf tv2).length = 6 := by
        rw [List.length_map, hrows2.len, List.length_append, List.length_append, hrl]; rfl
      have hvd : (refsOf tvd).length = 4 := by
        rw [List.length_map, hrd.len, List.length_append, hrl]; rfl
      obtain ⟨t3, v3, g3, w3, m3⟩ := hrows2.get (i := 3) (r := nameRow nm text.length) (by rw [List.append_assoc, List.getElem?_append_right (by walk_at "om"), hrl]; rfl)
      obtain ⟨t4, v4, g4, w4, m4⟩ := hrows2.get (i := 4) (r := signRow sg (text ++ nm ++ gp).length) (by rw [List.append_assoc, List.getElem?_append_right (by walk_at "om"), hrl]; rfl)
      obtain ⟨t5, v5, g5, w5, m5⟩ := hrows2.get (i := 5) (r := endRow (text ++ nm ++ gp ++ sg).length) (by rw [List.append_assoc, List.getElem?_append_right (by walk_at "om"), hrl]; rfl)
      obtain ⟨d3, z3, k3, y3, q3⟩ := hrd.get (i := 3) (r := nameRow nm text.length) (by rw [List.getElem?_append_right (by walk_at "om"), hrl]; rfl)
      (try k_fold)
      k_steps
      · refine Hold.go ?_
        (with_reducible rename Fr _ _ _ _ => F2); (with_reducible rename News _ _ _ _ => N2)
        have hin := (name_key nm hnm).1 (by assumption)
        refine law_fault_says (meth_says (name_says (w := w) (x := x) (dx := dx) (D := D) (t := t3) (refs := refsOf tv2) (vs := v3) (c := cc) (k := 3) (ta := ta7) (tb := tb7) (tc := tc) (row := nameRow nm text.length) (by walk_at "om") (by walk_at "om") hdx hxD (by walk_at "om") (by rw [hv2]; exact getD_of g3) w3)) (fun C sp h => .inr h.1) (fun h X9 hm => meth_keeps (fun _ => fnName) h X9 (hm _ (.head _))) B' F2 XB (move_2h N2) ?hro TB D' rfl (by first | ktr_room | omega) (by first | ktr_units | omega) (Off.sep (Off.new1 (by with_reducible assumption) (Off.new (by with_reducible assumption) (Off.old hdl hdx hxD (Off.old hc1x hdx hxD (Off.all n1 n2 n3)))))) ?_
        case hro => exact allc (.head _) (all1 (.tail _ (.tail _ (.tail _ (.tail _ (hR2 _ m3))))))
        rintro r9 led9 g2 h9 tk9 hO T2 F9 N9 B2 D2
        rcases hO with ⟨_, rv, hk0, hk1, _⟩ | ⟨C, sp, ts9, ⟨_, hsp, _⟩, rfl, rfl⟩
        · exact absurd hin hk1
        replace hsp : sp = text.length := hsp
        subst hsp
        have X2 := XB.keeps B2.stays
        have T2' := TB.keeps B2.stays
        clear B' X' T' D' F2 N2
        dsimp only [List.cons_append, List.nil_append] at N9 ⊢
        have y3' := y3
        obtain ⟨e1, e2, e3, e4, e5, ez⟩ := y3'
        replace ez : z3 = [.str (S (codes "name")) e1, .str (S nm) e2, .int (text.length : Nat) e3, .none, .none] := ez
        subst ez
        replace N9 := put_one N9 (.tail _ (.tail _ (.tail _ (.tail _ (.tail _ (.tail _ (.tail _ (hRd _ q3))))))))
        k_steps
        refine Hold.go ?_
        (with_reducible rename Fr _ _ _ _ => F3); (with_reducible rename News _ _ _ _ => N3)
        refine item_litK (vs := refsOf tvd) (v := .ref d3) (N3.isList (.tail _ (.tail _ (.tail _ (.tail _ (.tail _ (.tail _ (.head _)))))))) (by walk_at "om") (by walk_at "om") k3 ?_
        k_steps
        · exact absurd rfl (by assumption)
        refine Hold.go ?_
        (with_reducible rename Fr _ _ _ _ => F4); (with_reducible rename News _ _ _ _ => N4)
        have hd3 := hRd _ q3
        refine SaysR.go (take_says (k := 3) (t := t3) (vs := v3) (row := nameRow nm text.length) (by walk_at "om") (by walk_at "om") hdx hxD (by walk_at "om") (by rw [hv2]; exact getD_of g3) w3) B2 F4 X2 (move_1 N4) (all1 (.tail _ (.tail _ (.tail _ (.tail _ (.tail _ (hR2 _ m3))))))) T2' rfl (by first | ktr_room | omega) (by first | ktr_units | omega) ?_ ?_ (fun _ _ _ _ _ _ h => h.elim)
        · exact Off.sep (Off.one (n1 _ hd3) (n2 _ hd3) (n3 _ hd3) (Off.new1 (by with_reducible assumption) (Off.new (by with_reducible assumption) (Off.old hdl hdx hxD (Off.old hc1x hdx hxD (Off.all n1 n2 n3))))))
        rintro r9 led9 h9 tk9 ⟨rfl, tc', rfl⟩ F9 N9
        rw [if_neg (show (nameRow nm text.length).kind ≠ codes "end" from kinds_ne.2)] at N9
        dsimp only [List.cons_append, List.nil_append] at N9
        clear N4
        k_steps
        refine Hold.go ?_
        (with_reducible rename Fr _ _ _ _ => F3); (with_reducible rename News _ _ _ _ => N3)
        refine item_litK (vs := refsOf tvd) (v := .ref d3) (N3.isList (.tail _ (.tail _ (.tail _ (.tail _ (.tail _ (.tail _ (.head _)))))))) (by walk_at "om") (by walk_at "om") k3 ?_
        k_steps
        refine Hold.go ?_
        refine data_ne (d := rowData (nameRow nm text.length)) (reads_row (N3 (t3, tupObj v3) (.tail _ (.tail _ (.tail _ (.tail _ (.tail _ (.tail _ (.tail _ (.tail _ (hR2 _ m3)))))))))).1 w3) (reads_row (N3 (d3, _) (.tail _ (.tail _ (.tail _ (.head _))))).1 y3) (rowData_shaped _ (name_short hnm)) (by first | ktr_units | omega) ?_
        k_steps
        refine Hold.go ?_
        (with_reducible rename Fr _ _ _ _ => F5); (with_reducible rename News _ _ _ _ => N5)
        refine SaysC.go (angles_says (t4 := t4) (t5 := t5) (refs := refsOf tv2) (v4 := v4) (v5 := v5) (c := cc) (sg := sg) (spot := (text ++ nm ++ gp).length) hv2 (getD_of g4) (getD_of g5) w4 (by rw [← List.length_append]; exact w5) hsg hdx hxD) B2 F5 XB N5 (allc (.tail _ (.tail _ (.tail _ (.tail _ (.tail _ (hR2 _ m4)))))) (all1 (.tail _ (.tail _ (.tail _ (.tail _ (.tail _ (hR2 _ m5)))))))) TB D2 rfl (by first | ktr_room | omega) (by first | ktr_units | omega) ?_ ?_
        · exact Off.sep (Off.one (n1 _ hd3) (n2 _ hd3) (n3 _ hd3) (Off.new1 (by with_reducible assumption) (Off.new (by with_reducible assumption) (Off.old hdl hdx hxD (Off.old hc1x hdx hxD (Off.all n1 n2 n3))))))
        rintro r9 led9 g3 h9 tk9 ⟨rfl, rfl⟩ T3 F9 N9 B3 D3
        dsimp only [List.cons_append, List.nil_append] at N9 ⊢
        clear N5
        k_steps
        rename Fr _ _ _ _ => F7
        rename News _ _ _ _ => N7
        refine hQ _ _ ?_
        exact ⟨g3, L', _, (262, tabObj ps) :: (tl ++ news), T2.trans T3, F7, sub_drop N7 (fun p hp => .tail _ (.tail _ (.tail _ (.tail _ (.tail _ (hRt p hp)))))), fun h₀' T1 F1 N1 B1 D1 => hret ps tl _ _ _ htab (.inl rfl) T1 F1 N1 B1 D1⟩
      · refine Hold.go ?_
        (with_reducible rename Fr _ _ _ _ => F2); (with_reducible rename News _ _ _ _ => N2)
        have hin := (name_key nm hnm).2 (by assumption)
        show wpAny _ _ (call (Value.ref 190) [.ref x]) _ _ _
        refine wpAny_call (name_says (w := w) (x := x) (dx := dx) (D := D) (t := t3) (refs := refsOf tv2) (vs := v3) (c := cc) (k := 3) (ta := ta7) (tb := tb7) (tc := tc) (row := nameRow nm text.length) (by walk_at "om") (by walk_at "om") hdx hxD (by walk_at "om") (by rw [hv2]; exact getD_of g3) w3 B' F2 X' (move_1 N2) (all1 (.tail _ (.tail _ (.tail _ (hR2 _ m3))))) T' rfl (by first | ktr_room | omega) (by first | ktr_units | omega) (Off.sep (Off.new (by with_reducible assumption) (Off.old hdl hdx hxD (Off.old hc1x hdx hxD (Off.all n1 n2 n3))))) ?_ ?_)
        · rintro r9 led9 h9 tk9 ⟨_, _, tn, u2, u3, tc', rfl, rfl, hltn⟩ F9 N9
          dsimp only [List.cons_append, List.nil_append] at N9 ⊢
          clear N2
          have y3' := y3
          obtain ⟨e1, e2, e3, e4, e5, ez⟩ := y3'
          replace ez : z3 = [.str (S (codes "name")) e1, .str (S nm) e2, .int (text.length : Nat) e3, .none, .none] := ez
          subst ez
          replace N9 := put_one N9 (.tail _ (.tail _ (.tail _ (.tail _ (.tail _ (.tail _ (.tail _ (hRd _ q3))))))))
          k_steps
          refine Hold.go ?_
          (with_reducible rename Fr _ _ _ _ => F3); (with_reducible rename News _ _ _ _ => N3)
          refine item_litK (vs := refsOf tvd) (v := .ref d3) (N3.isList (.tail _ (.tail _ (.tail _ (.tail _ (.tail _ (.tail _ (.head _)))))))) (by walk_at "om") (by walk_at "om") k3 ?_
          k_steps
          refine Hold.go ?_
          (with_reducible rename Fr _ _ _ _ => F4); (with_reducible rename News _ _ _ _ => N4)
          refine data_ne (d := pairData nm text.length) (reads_pair (N4 (tn, tupObj [_, _]) (.tail _ (.tail _ (.head _)))).1) (reads_pair (N4 (_, tupObj [_, _]) (.head _)).1) (pair_shaped (names_ok nm hnm).2.2.2.2.2.2) (by first | ktr_units | omega) ?_
          replace N4 := drop_3 N4
          k_steps
          refine Hold.go ?_
          (with_reducible rename Fr _ _ _ _ => F5); (with_reducible rename News _ _ _ _ => N5)
          refine SaysC.go (angles_says (t4 := t4) (t5 := t5) (refs := refsOf tv2) (v4 := v4) (v5 := v5) (c := cc) (sg := sg) (spot := (text ++ nm ++ gp).length) hv2 (getD_of g4) (getD_of g5) w4 (by rw [← List.length_append]; exact w5) hsg hdx hxD) B' F5 XB N5 (allc (.tail _ (.tail _ (.tail _ (hR2 _ m4)))) (all1 (.tail _ (.tail _ (.tail _ (hR2 _ m5)))))) TB D' rfl (by first | ktr_room | omega) (by first | ktr_units | omega) ?_ ?_
          · exact Off.sep (Off.new (by with_reducible assumption) (Off.old hdl hdx hxD (Off.old hc1x hdx hxD (Off.all n1 n2 n3))))
          rintro r9 led9 g3 h9 tk9 ⟨rfl, rfl⟩ T3 F9 N9 B3 D3
          dsimp only [List.cons_append, List.nil_append] at N9 ⊢
          clear N5
          k_steps
          rename Fr _ _ _ _ => F7
          rename News _ _ _ _ => N7
          refine hQ _ _ ?_
          exact ⟨g3, L', _, (262, tabObj ps) :: (tl ++ news), T3, F7, sub_drop N7 (fun p hp => .tail _ (.tail _ (.tail _ (hRt p hp)))), fun h₀' T1 F1 N1 B1 D1 => hret ps tl _ _ _ htab (.inl rfl) T1 F1 N1 B1 D1⟩
        · rintro C sp e9 G h9 tk9 ⟨_, _, h | h⟩ F9 R9 sm9
          · exact absurd rfl h
          · exact absurd h hin
end
section
theorem ret_true {prog : Program} {w : World} {A : Around} {Q : Flow → Shared → Prop} {E : Value → Shared → Prop} {s : Shared} {env : Env} {k : Nat} {p p' : Pos} (h : Q (.ret (.bool true)) s) :
    wpAny (model prog w) A (execs [.Return (some (.Constant (.bool true) k p)) p'] env) Q E s :=
  wpAny_execs_cons (wpAny_Return_some (wpAny_Constant_bool h))
theorem law_good {G h : Heap} {L : Addr} {m : Str → Option Value} {s1 : Shared} {tk : Tok} {cl : Str → Option Addr} {mean : ExcName → Option Value} {xs : List Int} {PS PT : Array Value} (F : Fr G L h m) (hg : s1.gens = #[])
    (N : News G L h [(262, tabObj PS), (269, tabObj PT)]) :
    GoodW PySem.Challenge.rw_pf0162_01.row.claim cl mean [ofPy (PyData.list (List.map PyData.int xs))] { s1 with heap := G } (.ok (.ret (.bool true))) { s1 with heap := h, toks := tk } ∧ GrownAll [(266, 262), (273, 269)] h := by
  refine ⟨goodW_bool F hg (raisesW_false ?_) ?_, ⟨_, (N _ (.head _)).1⟩, ⟨_, (N _ (.tail _ (.head _))).1⟩, trivial⟩
  · wrow_none_raised
  · wrow_post
end
section
theorem back_F {G g h : Heap} {L : Addr} {m : Str → Option Value} (F : Fr g L h m) (st : G.StaysIn g) (ab : G.objs.size ≤ L) : Fr G L h m := ⟨F.ns, fun b o e => F.keep b o (st b o e), ab⟩
theorem back_N {G g h : Heap} {L : Addr} {l : List (Addr × Obj)} (N : News g L h l) (st : G.StaysIn g) : News G L h l := fun p hp => ⟨(N p hp).1, (N p hp).2.1, by
  cases q : G.get? p.1 with
  | none => rfl
  | some o => have := (N p hp).2.2; rw [st _ _ q] at this; cases this⟩
theorem SaysC.base {w : World} {dn un' : Nat} {f : Addr} {vs : List Value} {led ro : List (Addr × Obj)} {Out : List (Addr × Obj) → Value → List (Addr × Obj) → Prop} {loose : List Str} {mean : ExcName → Option Value} {mg mb : Str → Option Value} {dp un : Nat} {gd : Option (List Code)} {cn : Str} {cs : Scope} {a : Addr} {ccd : Value} {cl : List (Str × Addr)} {A₀ : Around} {G : Heap} {L : Addr} {m : Str → Option Value} {s : Shared} {Q E : Value → Shared → Prop} {news : List (Addr × Obj)}
   (h : SaysC w dn un' f vs led ro Out) (B : Below A₀ G [] G) (F : Fr G L s.heap m) (X : (hd.heap_39 w.params).In G) (N : News G L s.heap (led ++ news)) (hro : ∀ p ∈ ro, p ∈ news) (T : Top topProg loose mean mg mb G) (hk : cs.kind = .function)
   (hd : dp + dn < recursionLimit) (hu : un + un' < cLine) (hsep : ∀ p ∈ led, ∀ q ∈ news, q.1 ≠ p.1)
   (hret : ∀ (r : Value) (led' : List (Addr × Obj)) (h' : Heap) (tk' : Nat), Out news r led' → Fr G L h' m → News G L h' (led' ++ news) → Q r { s with heap := h', toks := tk' }) :
   wpAny (model PySem.Challenge.pw_pf0162_01 w) (ktrTop dp un gd cn cs L a ccd cl []) (call (.ref f) vs) Q E s :=
  h B F X N hro T (fun b hb => nomatch hb) hk hd hu hsep fun r led' g h' tk' hO _ F' N' B' _ => hret r led' h' tk' hO (back_F F' B'.stays F.above) (back_N N' B'.stays)
theorem put_rL {h₀ h : Heap} {L : Addr} {ro news : List (Addr × Obj)} (N : News h₀ L h news) (hr : ∀ p ∈ ro, p ∈ news) : News h₀ L h (ro ++ news) := fun p hp => N p (by
  rcases List.mem_append.mp hp with hp | hp
  · exact hr p hp
  · exact hp)
theorem put_oneL {h₀ h : Heap} {L : Addr} {q : Addr × Obj} {news : List (Addr × Obj)} (N : News h₀ L h news) (hq : q ∈ news) : News h₀ L h (q :: news) := fun p hp => by
  rcases List.mem_cons.mp hp with rfl | hp
  · exact N _ hq
  · exact N p hp
theorem Rows2.one {r : Row} {e : Row} {tv : List (Addr × List Value)} (h : Rows2 ([r] ++ [e]) tv) : ∃ t0 t1 v0 v1, tv = [(t0, v0), (t1, v1)] ∧ RowIs r v0 ∧ RowIs e v1 := by
  cases h with
  | cons h1 h2 => cases h2 with
    | cons h3 h4 => cases h4 with
      | nil => exact ⟨_, _, _, _, rfl, h1, h3⟩
theorem reads_is {h : Heap} {a : Addr} {x : List Nat} {n : Nat} {t1 t2 : Tok} (ha : h.get? a = some (tupObj [.int (n : Nat) t1, .str (S x) t2])) : ∃ as, Reads h (.ref a) (.tuple [.int n, .str (S x)]) as :=
  ⟨_, reads_tuple_at ha rfl rfl (.cons (.int _ _) (.cons (.str _ _) .nil))⟩
theorem is_shaped {x : List Nat} {n : Nat} (h : ∀ c ∈ x, c < 128) : SeqAt.shaped (.tuple [.int n, .str (S x)]) = true := by
  simp [strOk_S h, SeqAt.shaped, PyData.canLay0, PyData.canLayAll0, PyData.depth, PyData.depthAll]
theorem lit_u64 : Str.ofString "u64" = S [117, 54, 52] := by decide +kernel
theorem lit_aS : Str.ofString "a" = S [97] := by decide +kernel
theorem pow40 : (2 : Int) ^ (Int.toNat 40) = ((1099511627776 : Nat) : Int) := by decide +kernel
theorem less1 : ((1099511627776 : Nat) : Int) - 1 = ((1099511627775 : Nat) : Int) := by decide +kernel
theorem bits2 : Builtin.Int.intBits (2 : Int) ≤ 64 := by decide +kernel
theorem range_small {h : Heap} {r : Addr} {N : Int} {t u v : Tok} (hr : IsRange h r 0 N 1 t u v) (h1 : 0 ≤ N) (h3 : N ≤ 3) : ∃ n : Nat, n ≤ 3 ∧ IsRange h r 0 (n : Int) 1 t u v :=
  ⟨N.toNat, by omega, by rw [Int.toNat_of_nonneg h1]; exact hr⟩
theorem star_list {elts : List PySem.Expr} {pos : Pos} {rest : List PySem.Expr} {env : Env} : starEach (PySem.Expr.List elts pos :: rest) env = (false, eval (PySem.Expr.List elts pos) env) :: starEach rest env := rfl
abbrev text1 : List Nat := [97, 32] ++ List.replicate 41 55
abbrev text2 : List Nat := List.replicate 40 55
abbrev figs3 : List Nat := (List.replicate 40 [49, 95]).flatten
abbrev text3 : List Nat := [48, 98] ++ figs3 ++ [117, 54, 52]
theorem word1 : Word text1 0 (some (nameRow [97] 0, 1)) := by
  have e : runEnd text1 nameSigns 0 = 1 := by decide +kernel
  have := Word.name (text := text1) (i := 0) (by decide) (by decide +kernel)
  rw [e] at this
  exact this
theorem toks1 : Skips text1 0 0 ∧ Toks text1 0 [nameRow [97] 0] (some 2) := by
  refine ⟨.stop (Nat.zero_le _) fun _ => by decide +kernel, .word word1 (by decide) (skips_blank (c := 32) (a := []) (b := List.replicate 41 55) rfl (by decide) (fun c r e => by rw [← (List.cons.inj (show 55 :: List.replicate 40 55 = c :: r from e)).1]; decide) (skips_stop rfl (by decide) (fun c r e => by rw [← (List.cons.inj (show 55 :: List.replicate 40 55 = c :: r from e)).1]; decide))) (.fault ?_)⟩
  exact .fault (figs := List.replicate 41 55) (kind := []) (bs := 10) (e := 43) (by decide) (by decide +kernel) (by decide +kernel) (by decide +kernel) ⟨by decide +kernel, by decide +kernel, by decide +kernel, by decide +kernel, by decide +kernel, .inl rfl⟩ (by decide +kernel)
theorem toks2 : Skips text2 0 0 ∧ ∃ r, Toks text2 0 [r] none :=
  ⟨.stop (Nat.zero_le _) fun _ => by decide +kernel, _, .word (.int (figs := List.replicate 40 55) (kind := []) (bs := 10) (e := 40) (by decide) (by decide +kernel) (by decide +kernel) (by decide +kernel) ⟨by decide +kernel, by decide +kernel, by decide +kernel, by decide +kernel, by decide +kernel, .inl rfl⟩ (by decide +kernel)) (by decide) (.stop (by decide) fun h => absurd h (by decide)) .done⟩
def row3 : Row := ⟨codes "int", text3, 0, some 1099511627775, some [117, 54, 52]⟩
theorem row3_is : intRow text3 0 figs3 [117, 54, 52] 2 85 = row3 := by
  unfold intRow row3
  rw [show valOf 2 figs3 = 1099511627775 from by decide +kernel, show (List.drop 0 text3).take (85 - 0) = text3 from by decide +kernel]
  rfl
theorem toks3 : Skips text3 0 0 ∧ Toks text3 0 [row3] none := by
  refine ⟨.stop (Nat.zero_le _) fun _ => by decide +kernel, .word (j := 85) (k := 85) ?_ (by decide) (.stop (by decide) fun h => absurd h (by decide)) .done⟩
  rw [← row3_is]
  exact .int (figs := figs3) (kind := [117, 54, 52]) (bs := 2) (e := 85) (by decide) (by decide +kernel) (by decide +kernel) (by decide +kernel) ⟨by decide +kernel, by decide +kernel, by decide +kernel, by decide +kernel, by decide +kernel, .inr (by decide)⟩ (by decide +kernel)
theorem small1 : ∀ c ∈ text1, c < 128 := by decide +kernel
theorem small2 : ∀ c ∈ text2, c < 128 := by decide +kernel
theorem small3 : ∀ c ∈ text3, c < 128 := by decide +kernel
end
section
local macro_rules | `(tactic| walk_at "subscriptTail") => `(tactic| ((with_reducible show wpAny _ _ (subscriptTail _ _ (Value.ref _) (Value.ref _)) _ _ _); refine Hold.out ?_))
local macro_rules | `(tactic| walk_at "callWith ref") => `(tactic| ((with_reducible show wpAny _ _ (callWith _ (Value.ref 200) _ _ _) _ _ _); refine Hold.out ?_))
local macro_rules | `(tactic| walk_at "call type:range") => `(tactic| ((rename Fr _ _ _ _ => F'); (rename News _ _ _ _ => N'); (with_unfolding_all refine range1_rows F' N' ?_; intro _ _ _ _ _ _ _ _ _)))
local macro_rules | `(tactic| walk_at $k:str) => if ["binaryOp Pow int int", "subscriptTail Call Slice ref ref", "binaryOp Sub int int"].contains k.getString then `(tactic| refine Hold.out ?_) else Lean.Macro.throwUnsupported
theorem sub_assoc {α : Type} {q : α} {a b c : List α} : ∀ p ∈ (q :: (a ++ b)) ++ c, p ∈ q :: (a ++ (b ++ c)) := fun p hp => by
  rwa [List.cons_append, List.append_assoc] at hp
theorem keep_two {G h : Heap} {L : Addr} {a b c d : Addr × Obj} {x y : Array Value} (N : News G L h [a, b, c, d, (262, tabObj x), (269, tabObj y)]) : ∃ z, News G L h [(262, tabObj x), (269, tabObj z)] :=
  ⟨y, sub_drop N (sub_skip (sub_skip (sub_skip (sub_skip sub_self))))⟩
set_option maxHeartbeats 16000000 in
theorem the_law : PySem.Challenge.rw_pf0162_01.Holds := Mine.hd (by
  k_go0
  (all_goals try k_fold)
  rename Addr => sl
  rename IntsAre _ _ => hints
  rename (¬ _ < _) => hlen
  rename Heap.IsList _ _ _ => hsl
  rename Below _ _ _ _ => B0
  rename Frag.In _ _ => X0
  rename Top _ _ _ _ _ _ => T0
  rename Shared => s1
  rename (s1.heap.CodeRec _ _) => q1
  clear q1
  rename (Dflts _ _ _ _ _ _) => q2
  clear q2
  rename Ground _ _ _ _ _ _ _ _ _ => q3
  rename Tables _ _ _ _ => q4
  rename TopE _ _ _ _ => q5
  rename TopW _ _ _ => q6
  clear q3 q4 q5 q6
  generalize ghostOf _ [(266, 262), (273, 269)] = G at *
  generalize s1.heap.objs.size = L0 at *
  k_steps
  refine Hold.go ?_
  (with_reducible rename Fr _ _ _ _ => F1); (with_reducible rename News _ _ _ _ => N1)
  rename_i f c' oc vsc tq ctv hA tkA d1 d2 l1 l2
  refine SaysC.base (law_fault_says (ro := [(f, _), (c', oc)]) (dn := 12) (un' := 130) (Out := fun _ _ _ => False) (Thr := fun C spot => C = 52 ∧ spot = 2) ?hlam (fun C sp h => .inl h.1) (fun h X9 hm => keeps_F h ⟨_, _, _, _, hm _ (.head _)⟩)) B0 F1 X0 (led := []) N1 (allc (.head _) (all1 (.tail _ (.head _)))) T0 rfl (by first | ktr_room | decide) (by first | ktr_units | decide) (fun _ h => nomatch h) ?_
  case hlam =>
    clear F1 N1
    intro loose mean mg mb dp un gd cn cs ac ccd cl outer A₀ base h₀ L m s Q E news B F X N hro T hkf hd hu hsep hret hthrow
    replace N := put_rL N hro
    dsimp only [List.cons_append, List.nil_append] at N
    refine kla_code B F X N T rfl rfl hkf (.head _) (codeRec_news N (.tail _ (.head _)) d1 d2) (by ktr_room) rfl (locs rfl) ?_ rfl rfl rfl (by decide)
    intro g' L2 h2 FG2 F2 N2 B2 X2 T2
    (try dsimp only); (try k_lift B2); (try k_fold)
    k_steps
    refine Hold.go ?_
    (with_reducible rename Fr _ _ _ _ => F5); (with_reducible rename News _ _ _ _ => N5)
    rw [show Str.ofString "a " ++ Txt.mul (Str.ofString "7") 41 = S text1 from by decide +kernel]
    refine read_words_says (rows := [nameRow [97] 0]) (f := some 2) (i0 := 0) (by decide) small1 toks1.1 toks1.2 (by decide) B2 F5 X2 N5 T2 rfl (by first | ktr_room | omega) (by first | ktr_units | omega) (fun _ h => nomatch h) ?_ ?_
    · rintro _ _ _ _ ⟨hf, _⟩ _ _
      cases hf
    · rintro C spot e9 G h9 tk9 ⟨rfl, hm9⟩ F9 R9 sm9
      show wpAny _ _ (leaving _ _) _ _ _
      refine thrown_leave B2 F9 R9 sm9 (sub_skip (sub_skip sub_self)) rfl fun h4 R4 sm4 => ?_
      exact hthrow 52 _ e9 _ h4 _ ⟨rfl, (Option.some.inj hm9).symm⟩ FG2 R4 sm4
  rintro r9 led9 h9 tk9 hO F9 N9
  rcases hO with ⟨_, rv, hso⟩ | ⟨C, sp, ts9, ⟨_, hsp⟩, rfl, rfl⟩
  · exact hso.elim
  subst hsp
  dsimp only [List.nil_append] at N9 ⊢
  clear N1 F1
  k_steps
  refine Hold.go ?_
  (with_reducible rename Fr _ _ _ _ => F1); (with_reducible rename News _ _ _ _ => N1)
  rename_i f2 c2 oc2 vsc2 tq2 ctv2 hA2 tkA2 d12 d22 l12 l22
  refine SaysC.base (law_fault_says (ro := [(f2, _), (c2, oc2)]) (dn := 12) (un' := 130) (Out := fun _ _ led => led = []) (Thr := fun _ _ => False) ?hlam (fun C sp h => h.elim) (fun h X9 hm => keeps_F h ⟨_, _, _, _, hm _ (.head _)⟩)) B0 F1 X0 (led := []) N1 (allc (.head _) (all1 (.tail _ (.head _)))) T0 rfl (by first | ktr_room | decide) (by first | ktr_units | decide) (fun _ h => nomatch h) ?_
  case hlam =>
    clear F1 N1
    intro loose mean mg mb dp un gd cn cs ac ccd cl outer A₀ base h₀ L m s Q E news B F X N hro T hkf hd hu hsep hret hthrow
    replace N := put_rL N hro
    dsimp only [List.cons_append, List.nil_append] at N
    refine kla_code B F X N T rfl rfl hkf (.head _) (codeRec_news N (.tail _ (.head _)) d12 d22) (by ktr_room) rfl (locs rfl) ?_ rfl rfl rfl (by decide)
    intro g' L2 h2 FG2 F2 N2 B2 X2 T2
    (try dsimp only); (try k_lift B2); (try k_fold)
    k_steps
    refine Hold.go ?_
    (with_reducible rename Fr _ _ _ _ => F5); (with_reducible rename News _ _ _ _ => N5)
    rw [show Txt.mul (Str.ofString "7") 40 = S text2 from by decide +kernel]
    obtain ⟨hs2, r2, ht2⟩ := toks2
    refine read_words_says (rows := [r2]) (f := none) (i0 := 0) (by decide) small2 hs2 ht2 (Nat.le_add_left _ _) B2 F5 X2 N5 T2 rfl (by first | ktr_room | omega) (by first | ktr_units | omega) (fun _ h => nomatch h) ?_ ?_
    · rintro r9 led9 h9 tk9 ⟨_, x, dx, D, cc, ta, tb, tc, tv, rfl, rfl, _⟩ F9 N9
      replace N9 := sub_drop (news := news) N9 (fun p hp => List.mem_append_right _ (.tail _ (.tail _ hp)))
      dsimp only
      clear N5
      k_steps
      rename News h₀ _ _ _ => N3
      rename Fr h₀ _ _ _ => F3
      exact hret _ [] _ _ rfl F3 N3
    · rintro C spot e9 G h9 tk9 ⟨_, hm9⟩ F9 R9 sm9
      cases hm9
  rintro r9 led9 h9 tk9 hO F9 N9
  rcases hO with ⟨rfl, rv, rfl⟩ | ⟨C, sp, ts9, hf, _⟩
  case inr => exact hf.elim
  dsimp only [List.nil_append] at N9 ⊢
  obtain ⟨PT, N9⟩ := keep_two N9
  clear N1 F1
  k_steps
  refine Hold.go ?_
  (with_reducible rename Fr _ _ _ _ => F1); (with_reducible rename News _ _ _ _ => N1)
  rw [show Str.ofString "0b" ++ Txt.mul (Str.ofString "1_") 40 ++ Str.ofString "u64" = S text3 from by decide +kernel]
  refine read_words_says (rows := [row3]) (f := none) (i0 := 0) (by decide) small3 toks3.1 toks3.2 (by decide) B0 F1 X0 N1 T0 rfl (by first | ktr_room | decide) (by first | ktr_units | decide) (fun _ h => nomatch h) ?_ ?_
  case refine_2 =>
    rintro C spot e9 G h9 tk9 ⟨_, hm9⟩ F9 R9 sm9
    cases hm9
  rintro r9 led9 h9 tk9 ⟨_, x, dx, D, cc, ta, tb, tc, tv, rfl, rfl, hr2, hdx, hxD, hnx, htx⟩ F9 N9
  obtain ⟨t0, t1, v0, v1, rfl, w0, w1⟩ := hr2.one
  obtain ⟨u1, u2, u3, u4, u5, e0⟩ := w0
  replace e0 : v0 = [.str (S (codes "int")) u1, .str (S text3) u2, .int ((0 : Nat) : Int) u3, .int ((1099511627775 : Nat) : Int) u4, .str (S [117, 54, 52]) u5] := e0
  subst e0
  have hdx := ltN hdx
  have hxD := ltN hxD
  have ht0 := ltN (htx (t0, _) (.head _))
  have ht1 := ltN (htx (t1, _) (.tail _ (.head _)))
  dsimp only [List.cons_append, List.nil_append, tupsOf, refsOf, List.map] at N9 ⊢
  clear N1 F1
  k_steps
  refine Hold.go ?_
  (with_reducible rename Fr _ _ _ _ => F1); (with_reducible rename News _ _ _ _ => N1)
  show wpAny _ _ (call (Value.ref 161) [.ref x]) _ _ _
  have h262 := ltN (hnx (262, tabObj #[]) (.head _))
  have h269 := ltN (hnx (269, tabObj PT) (.tail _ (.head _)))
  refine peek_says (tt := 0) (refs := [.ref t0, .ref t1]) (.inl ⟨rfl, rfl⟩) (show 2 ≤ 1000 by decide) (show 1 ≤ 2 by decide) hdx hxD B0 F1 X0 N1 T0 rfl (by first | ktr_room | decide) (by first | ktr_units | decide) (here_sep (x := x) (dx := dx) (D := D) (neN (by walk_at "ad")) (neN (by walk_at "ad")) (neN (by walk_at "ad")) (allc (neN (by walk_at "ad")) (allc (neN (by walk_at "ad")) (all1 (neN (by walk_at "ad"))))) (allc (neN (by walk_at "ad")) (allc (neN (by walk_at "ad")) (all1 (neN (by walk_at "ad"))))) (allc (neN (by walk_at "ad")) (allc (neN (by walk_at "ad")) (all1 (neN (by walk_at "ad")))))) ?_
  rintro r9 led9 h9 tk9 ⟨rfl, rfl⟩ F9 N9
  rw [show [Value.ref t0, Value.ref t1].getD (min (0 + 0) ([Value.ref t0, Value.ref t1].length - 1)) Value.none = Value.ref t0 from rfl]
  dsimp only [List.cons_append, List.nil_append] at N9 ⊢
  clear N1
  k_steps
  refine Hold.go ?_
  (with_reducible rename Fr _ _ _ _ => F1); (with_reducible rename News _ _ _ _ => N1)
  refine kba_turn (value' := PySem.Expr.Name (PySem.Str.ofString "_") ⟨0, 0, 0, 0⟩) (fun _ => rfl) ?_
  refine slice_tuple_from (s := ⟨_, _, _, _, _⟩) (a := 3) F1 N1 (News.isTup N1 (.tail _ (.tail _ (.tail _ (.head _))))) (by decide) (show 3 ≤ 5 by decide) fun h3 F3 N3 => ?_
  dsimp only [List.drop] at N3 ⊢
  clear N1 F1
  clear N9 l1 l2 l12 l22 d1 d2 d12 d22
  k_steps
  refine Hold.go ?_
  refine pow_int (by decide) (pow_room bits2 (by decide) (by decide)) ?_
  rw [pow40]
  k_steps
  refine Hold.go ?_
  refine PyProof.Rows.sub_int ?_
  rw [less1]
  k_steps
  refine Hold.go ?_
  (with_reducible rename Fr _ _ _ _ => F1); (with_reducible rename News _ _ _ _ => N1)
  rw [lit_u64] at N1
  refine data_ne (d := .tuple [.int ((1099511627775 : Nat) : Int), .str (S [117, 54, 52])]) (reads_is (N1 (_, tupObj [_, _]) (.tail _ (.head _))).1) (reads_is (N1 (_, tupObj [_, _]) (.head _)).1) (is_shaped (by decide)) (by first | ktr_units | decide) ?_
  replace N1 := sub_drop (news := [(262, tabObj #[]), (269, tabObj PT)]) N1 (allc (.tail _ (.tail _ (.tail _ (.tail _ (.tail _ (.tail _ (.tail _ (.head _)))))))) (all1 (.tail _ (.tail _ (.tail _ (.tail _ (.tail _ (.tail _ (.tail _ (.tail _ (.head _)))))))))))
  k_steps
  refine Hold.go ?_
  generalize hE0 : PySem.Expr.List _ _ = e0
  refine callWith_K X0 ?hk ?_ (he := ?he)
  case hk => k_is
  case he => rw [← hE0]; exact star_list
  refine spliced_more (he := ?he2) ?_
  case he2 => rw [← hE0]; exact star_list
  subst hE0
  k_steps
  refine Hold.go ?_
  (with_reducible rename Fr _ _ _ _ => F1); (with_reducible rename News _ _ _ _ => N1)
  rename_i a hB lB b hC lC l hD lD
  refine words_says (refs := [.ref a, .ref b]) (show 2 ≤ 1001 by decide) B0 F1 X0 N1 (.head _) T0 rfl (by first | ktr_room | decide) (by first | ktr_units | decide) ?_
  intro x2 dx2 D2 c2 ta2 tb2 tc2 h9 tk9 hnx2 hdx2 hxD2 F9 N9
  have hdx2 := ltN hdx2
  have hxD2 := ltN hxD2
  have ha2 := ltN (hnx2 (a, _) (.tail _ (.tail _ (.head _))))
  have hb2 := ltN (hnx2 (b, _) (.tail _ (.head _)))
  have h622 := ltN (hnx2 (262, tabObj #[]) (.tail _ (.tail _ (.tail _ (.head _)))))
  have h692 := ltN (hnx2 (269, tabObj PT) (.tail _ (.tail _ (.tail _ (.tail _ (.head _))))))
  rw [lit_name, lit_aS, lit_end, lit_empty] at N9
  replace N9 := sub_drop (news := hereLed _ x2 dx2 D2 [.ref a, .ref b] c2 0 ta2 tb2 tc2 ++ [(b, tupObj [_, _, _, _, _]), (a, tupObj [_, _, _, _, _]), (262, tabObj #[]), (269, tabObj PT)]) N9 (sub_keep (sub_keep (sub_keep (sub_skip sub_self))))
  dsimp only [List.cons_append, List.nil_append] at N9 ⊢
  clear N1 F1
  k_steps
  refine Hold.go ?_
  (with_reducible rename Fr _ _ _ _ => F1); (with_reducible rename News _ _ _ _ => N1)
  show wpAny _ _ (call (Value.ref 190) [.ref x2]) _ _ _
  refine SaysR.go (name_says (t := a) (refs := [.ref a, .ref b]) (vs := [_, _, _, _, _]) (k := 0) (row := nameRow [97] 0) (show 2 ≤ 1000 by decide) (show 1 ≤ 2 by decide) hdx2 hxD2 (by decide) rfl ⟨_, _, _, 0, 0, rfl⟩) B0 F1 X0 N1 (all1 (.tail _ (.head _))) T0 rfl (by first | ktr_room | decide) (by first | ktr_units | decide) ?_ ?_ ?_
  · exact here_sep (x := x2) (dx := dx2) (D := D2) (neN (by walk_at "ad")) (neN (by walk_at "ad")) (neN (by walk_at "ad")) (allc (neN (by walk_at "ad")) (allc (neN (by walk_at "ad")) (all1 (neN (by walk_at "ad"))))) (allc (neN (by walk_at "ad")) (allc (neN (by walk_at "ad")) (all1 (neN (by walk_at "ad"))))) (allc (neN (by walk_at "ad")) (allc (neN (by walk_at "ad")) (all1 (neN (by walk_at "ad")))))
  case refine_3 =>
    rintro C sp e9 G h9 tk9 ⟨_, _, h | h⟩ F9 R9 sm9
    · exact absurd rfl h
    · exact absurd h (by decide +kernel)
  rintro r9 led9 h9 tk9 ⟨_, _, tn, u2, u3, tc', rfl, rfl, hltn⟩ F9 N9
  dsimp only [List.cons_append, List.nil_append] at N9 ⊢
  clear N1
  k_steps
  refine Hold.go ?_
  (with_reducible rename Fr _ _ _ _ => F1); (with_reducible rename News _ _ _ _ => N1)
  rw [lit_aS] at N1
  refine data_ne (d := pairData [97] 0) (reads_pair (N1 (tn, tupObj [_, _]) (.tail _ (.head _))).1) (reads_pair (N1 (_, tupObj [_, _]) (.head _)).1) (pair_shaped (by decide)) (by first | ktr_units | decide) ?_
  replace N1 := sub_drop N1 (sub_skip (sub_skip sub_self))
  k_steps
  refine Hold.go ?_
  (with_reducible rename Fr _ _ _ _ => F3); (with_reducible rename News _ _ _ _ => N3)
  show wpAny _ _ (call (Value.ref 161) [.ref x2]) _ _ _
  refine peek_says (tt := 0) (refs := [.ref a, .ref b]) (.inl ⟨rfl, rfl⟩) (show 2 ≤ 1000 by decide) (show 1 ≤ 2 by decide) hdx2 hxD2 B0 F3 X0 N3 T0 rfl (by first | ktr_room | decide) (by first | ktr_units | decide) (here_sep (x := x2) (dx := dx2) (D := D2) (neN (by walk_at "ad")) (neN (by walk_at "ad")) (neN (by walk_at "ad")) (allc (neN (by walk_at "ad")) (allc (neN (by walk_at "ad")) (all1 (neN (by walk_at "ad"))))) (allc (neN (by walk_at "ad")) (allc (neN (by walk_at "ad")) (all1 (neN (by walk_at "ad"))))) (allc (neN (by walk_at "ad")) (allc (neN (by walk_at "ad")) (all1 (neN (by walk_at "ad")))))) ?_
  rintro r9 led9 h9 tk9 ⟨rfl, rfl⟩ F9 N9
  rw [show [Value.ref a, Value.ref b].getD (min (0 + 1 + 0) ([Value.ref a, Value.ref b].length - 1)) Value.none = Value.ref b from rfl]
  dsimp only [List.cons_append, List.nil_append] at N9 ⊢
  clear N3 F3
  k_steps
  refine Hold.go ?_
  (with_reducible rename Fr _ _ _ _ => F1); (with_reducible rename News _ _ _ _ => N1)
  refine data_ne (d := rowData (endRow 1)) (reads_row (vs := [_, _, _, _, _]) (N1 (b, tupObj [_, _, _, _, _]) (.tail _ (.tail _ (.tail _ (.tail _ (.head _)))))).1 ⟨_, _, _, 0, 0, rfl⟩) (reads_row (vs := [_, _, _, _, _]) (N1 (_, tupObj [_, _, _, _, _]) (.head _)).1 ⟨_, _, _, 0, 0, by rw [lit_end, lit_empty]; rfl⟩) (rowData_shaped _ ⟨by show ∀ c ∈ codes "end", c < 128; decide +kernel, (fun _ h => nomatch h), (fun _ h => nomatch h)⟩) (by first | ktr_units | decide) ?_
  replace N1 := sub_drop N1 (sub_skip sub_self)
  k_steps
  refine Hold.go ?_
  (with_reducible rename Fr _ _ _ _ => F3); (with_reducible rename News _ _ _ _ => N3)
  rename_i q hQ lq
  refine SaysC.base (law_fault_says (meth_says (name_says (x := x2) (dx := dx2) (D := D2) (t := b) (refs := [.ref a, .ref b]) (vs := [_, _, _, _, _]) (c := c2) (k := 1) (ta := ta2) (tb := tb2) (tc := tc') (row := endRow 1) (show 2 ≤ 1000 by decide) (show 1 ≤ 2 by decide) hdx2 hxD2 (by decide) rfl ⟨_, _, _, 0, 0, rfl⟩)) (fun C sp h => .inr h.1) (fun h X9 hm => meth_keeps (fun _ => fnName) h X9 (hm _ (.head _)))) B0 F3 X0 (move_1 N3) (allc (.head _) (all1 (.tail _ (.head _)))) T0 rfl (by first | ktr_room | decide) (by first | ktr_units | decide) ?_ ?_
  · exact here_sep (x := x2) (dx := dx2) (D := D2) (neN (by walk_at "ad")) (neN (by walk_at "ad")) (neN (by walk_at "ad")) (allc (neN (by walk_at "ad")) (allc (neN (by walk_at "ad")) (allc (neN (by walk_at "ad")) (all1 (neN (by walk_at "ad")))))) (allc (neN (by walk_at "ad")) (allc (neN (by walk_at "ad")) (allc (neN (by walk_at "ad")) (all1 (neN (by walk_at "ad")))))) (allc (neN (by walk_at "ad")) (allc (neN (by walk_at "ad")) (allc (neN (by walk_at "ad")) (all1 (neN (by walk_at "ad"))))))
  rintro r9 led9 h9 tk9 hO F9 N9
  rcases hO with ⟨_, rv, hk0, _⟩ | ⟨C, sp, ts9, ⟨_, hsp, _⟩, rfl, rfl⟩
  · exact absurd hk0 (by show codes "end" ≠ codes "name"; decide +kernel)
  replace hsp : sp = 1 := hsp
  subst hsp
  replace N9 := sub_drop (news := [(262, tabObj #[]), (269, tabObj PT)]) N9 (allc (.tail _ (.tail _ (.tail _ (.tail _ (.tail _ (.tail _ (.head _))))))) (all1 (.tail _ (.tail _ (.tail _ (.tail _ (.tail _ (.tail _ (.tail _ (.head _))))))))))
  dsimp only [List.cons_append, List.nil_append] at N9 ⊢
  clear N3 F3 lq hdx2 hxD2 ha2 hb2 hnx2 h622 h692
  k_steps
  refine Hold.go ?_
  (with_reducible rename Fr _ _ _ _ => F1); (with_reducible rename News _ _ _ _ => N1)
  refine For_invVF F1 rfl rfl ?_
  k_steps
  refine Hold.go ?_
  (with_reducible rename Fr _ _ _ _ => F2); (with_reducible rename News _ _ _ _ => N2)
  rename IsRange _ _ _ _ _ _ _ _ => hr
  rename_i h6 tk6 u8 u9 u10 aa
  clear aa
  obtain ⟨n, hn3, hr⟩ := range_small hr (by first | omega | (split <;> omega) | (split <;> split <;> omega)) (by first | omega | (split <;> omega) | (split <;> split <;> omega))
  refine fr_range2 (σ := Array Value × List (Addr × Obj)) (n := n) (fun _ c => (262, tabObj c.1) :: (c.2 ++ [(269, tabObj PT)])) (fun _ _ => [(Str.ofString "script", .ref sl)]) (fun _ c => RowTab c.1 c.2 ∧ ∀ p ∈ c.2, p.1 ≠ h6.objs.size) (#[], []) rfl hr (small_0 n (by walk_at "om")) F2 N2 sub_self (all1 rfl) ⟨.inl ⟨rfl, rfl⟩, fun _ h => nomatch h⟩ ?hsub (fun _ _ => all1 (show Str.ofString "script" ≠ Str.ofString "k" by decide +kernel)) ?turn ?done
  case hsub =>
    intro i c hP p hp
    rcases List.mem_cons.mp hp with rfl | hp
    · exact Nat.ne_of_lt (Heap.lt_size (N2 (262, tabObj #[]) (.head _)).1)
    · rcases List.mem_append.mp hp with hp | hp
      · exact hP.2 p hp
      · rw [List.mem_singleton.mp hp]
        exact Nat.ne_of_lt (Heap.lt_size (N2 (269, tabObj PT) (.tail _ (.head _))).1)
  case turn =>
    rintro i t ⟨ps, tl⟩ own0 u h₁ tk₁ hi ⟨htab, htI⟩ F₁ N₁ hs ⟨oI, hIown⟩
    clear F2 N2
    dsimp only [List.cons_append] at htab htI F₁ N₁ hs ⊢
    rw [List.append_assoc] at N₁
    obtain ⟨own, hO⟩ : ∃ o, o = [(269, tabObj PT)] ++ own0 := ⟨_, rfl⟩
    rw [← hO] at N₁
    have hown : ∀ q ∈ own, q.1 ≠ 262 := by
      rw [hO]
      exact allc (show 269 ≠ 262 by decide) (hs (262, _) (.head _))
    replace hIown : (h6.objs.size, oI) ∈ own := by
      rw [hO]
      exact List.mem_append_right _ hIown
    have htl2 : ∀ p ∈ tl, p.1 ≠ 262 := by
      rcases htab with ⟨_, rfl⟩ | ⟨c', oc, vs, tt, _, rfl, hne, _⟩
      · exact fun _ h => nomatch h
      · exact all1 hne
    generalize hW : tl ++ own = W at N₁
    (try k_fold)
    k_steps
    refine Hold.go ?_
    (with_reducible rename Fr _ _ _ _ => F3); (with_reducible rename News _ _ _ _ => N3)
    refine law_pool_says (k := i) hints (by walk_at "om") (by walk_at "om") B0 F3 X0 N3 T0 hsl rfl (by first | ktr_room | decide) (by first | ktr_units | decide) ?_
    intro src x3 y3 n3 tx3 ty3 h8 tk8 hlt F9 N9
    dsimp only at N9 ⊢
    clear N3 F3
    k_steps
    refine Hold.go ?_
    (with_reducible rename Fr _ _ _ _ => F4); (with_reducible rename News _ _ _ _ => N4)
    rw [← hW] at N4 hlt
    have hdn : KtsDicts (([] : List Env).filterMap (·.frame)) G := fun b hb => nomatch hb
    refine row_right_says (a := x3) (b := y3) (n := n3) (ps := ps) (tl := tl) (news := own) B0 F4 X0 N4 T0 (by assumption) hdn rfl (by first | ktr_room | decide) (by first | ktr_units | decide) (fun p hp => Nat.ne_of_lt (hlt p hp)) ?h262 htab ?_
    case h262 =>
      intro p hp
      rcases List.mem_append.mp hp with hp | hp
      · exact htl2 p hp
      · exact hown p hp
    intro ps' tl' g9 h9 tk9 htab' hcc T1 F1 N1 B1 D1
    have F7 := back_F F1 B1.stays F4.above
    have N7 := back_N N1 B1.stays
    clear T1 F1 N1 B1 D1 F4 N4
    dsimp only
    k_steps
    rename Fr _ _ _ _ => F8
    rename News _ _ _ _ => N8
    rw [hO] at N8
    refine FEnd.intro (σ := Array Value × List (Addr × Obj)) (ps', tl') F8 N8 sub_assoc (all1 rfl) ⟨htab', fun p hp => ?_⟩
    rcases hcc with rfl | hcc
    · exact htI p hp
    · exact fun e => hcc p hp _ hIown e.symm
  case done =>
    rintro ⟨ps, tl⟩ u h₁ tk₁ _ F₁ N₁
    clear F2 N2
    dsimp only at F₁ N₁ ⊢
    replace N₁ := sub_drop (news := [(262, tabObj ps), (269, tabObj PT)]) N₁ (allc (.head _) (all1 (.tail _ (List.mem_append_right _ (.head _)))))
    refine ret_true ?_
    exact law_good (s1 := s1) F₁ (by assumption) N₁)
end
end
end Mine
set_option maxRecDepth 100000 in
set_option maxHeartbeats 8000000 in
theorem PySem.Challenge.cw_pf0162_01_holds : PySem.Challenge.rw_pf0162_01.Holds := by
  exact Mine.the_law
