import PyProof.Rows.All
import Wide.All
import OpenK.AllK
import Wide.FinOn
import Lean
import PySem.Challenge.RW_xm0773_01
open PySem PySem.W PyProof.Rows PySem.Spec PySem.Calls
set_option Elab.async false
namespace Mine
section
local macro_rules | `(tactic| o_head $_H) => `(tactic| assumption)
theorem gk (h : PySem.Challenge.rw_xm0773_01.row.Holds) : PySem.Challenge.rw_xm0773_01.row.Holds := by
  k_head
end
set_option linter.all false
set_option compiler.extract_closed false
set_option bootstrap.genMatcherCode false
set_option maxRecDepth 100000
set_option maxHeartbeats 8000000
theorem fill_all : PySem.Challenge.rw_xm0773_01 = PySem.Challenge.rw_xm0773_01 ∧ gk.heap_1 = gk.heap_1 := by k_fill; exact ⟨rfl, rfl⟩
section
noncomputable def pickA : List Addr → Nat → List Obj → List (Option Obj)
  | [], _, _ => []
  | _ :: _, _, [] => []
  | a :: as, i, o :: os => match Nat.beq a i with
    | true => some o :: pickA as (i + 1) os
    | false => pickA (a :: as) (i + 1) os
theorem pickA_at : ∀ (l : List Obj) (i : Nat) (K : Frag), pickA (K.map (·.1)) i l = K.map (fun p => some p.2) → ∀ p ∈ K, l[p.1 - i]? = some p.2 ∧ i ≤ p.1 := by
  intro l
  induction l with
  | nil =>
    intro i K e
    cases K with
    | nil => intro p hp; cases hp
    | cons q r => simp [pickA] at e
  | cons o os ih =>
    intro i K e
    cases K with
    | nil => intro p hp; cases hp
    | cons q r =>
      cases hb : Nat.beq q.1 i with
      | true =>
        have hq : q.1 = i := Nat.eq_of_beq_eq_true hb
        have e' : some o :: pickA (r.map (·.1)) (i + 1) os = some q.2 :: r.map (fun p => some p.2) := by
          have := e
          simp only [List.map_cons, pickA, hb] at this
          exact this
        have e1 : o = q.2 := Option.some.inj (List.cons.inj e').1
        have e2 := (List.cons.inj e').2
        intro p hp
        cases hp with
        | head => rw [hq, Nat.sub_self]; exact ⟨by rw [← e1]; rfl, Nat.le_refl _⟩
        | tail _ hp =>
          obtain ⟨h1, h2⟩ := ih (i + 1) r e2 p hp
          have : p.1 - i = (p.1 - (i + 1)) + 1 := (Nat.succ_pred_eq_of_pos (Nat.sub_pos_of_lt h2)).symm
          exact ⟨by rw [this]; exact h1, Nat.le_of_succ_le h2⟩
      | false =>
        have e' : pickA ((q :: r).map (·.1)) (i + 1) os = (q :: r).map (fun p => some p.2) := by
          have := e
          simp only [List.map_cons, pickA, hb] at this
          simpa only [List.map_cons] using this
        intro p hp
        obtain ⟨h1, h2⟩ := ih (i + 1) (q :: r) e' p hp
        have : p.1 - i = (p.1 - (i + 1)) + 1 := (Nat.succ_pred_eq_of_pos (Nat.sub_pos_of_lt h2)).symm
        exact ⟨by rw [this]; exact h1, Nat.le_of_succ_le h2⟩
noncomputable def hook (K : Params → Frag) (as : List Addr) (e : ∀ P, as = (K P).map (·.1)) (al : ∀ P, ((K P).all fun p => p.2.alive) = true) : Hook where
  α := List (Option Obj)
  obs := fun s => pickA as 0 s.heap.objs.toList
  val := fun w => (K w.params).map fun p => some p.2
  says := InK K
  of := by
    intro w s h a o ho
    have hm := mem_of_lookupK ho
    have h0 : pickA ((K w.params).map (·.1)) 0 s.heap.objs.toList = (K w.params).map fun p => some p.2 := by rw [← e w.params]; exact h
    have h1 := (pickA_at _ _ _ h0 _ hm).1
    rw [Nat.sub_zero, Array.getElem?_toList] at h1
    exact (Heap.get?_eq_some _ _ _).mpr ⟨h1, List.all_eq_true.mp (al w.params) _ hm⟩
  keeps := InK.keeps
noncomputable def AS : List Addr := [2, 3, 15, 17, 18, 20, 21, 22, 23, 24, 25, 26, 27, 28, 29, 31, 32, 34, 35, 36, 37, 39, 40, 42, 43, 44, 46, 47, 49, 50, 51, 54, 55, 63, 65, 66, 68, 69, 70, 71, 72, 73, 74, 77, 84, 85, 86, 89, 96, 98, 99, 101, 102, 103, 105, 106, 108, 109, 110, 111, 112, 115, 122, 124, 125, 127, 128, 129, 131, 132, 134, 135, 136, 137, 138, 141, 148, 150, 151, 153, 154, 155, 157, 158, 160, 161, 162, 163, 164, 167, 174, 176, 177, 179, 180, 181, 183, 184, 186, 187, 188, 189, 190, 193, 200, 202, 203, 205, 206, 207, 209, 210, 212, 213, 214, 215, 216, 219, 226, 228, 229, 231, 232, 233, 235, 236, 238, 239, 240, 241, 242, 245, 252, 254, 255, 257, 258, 259, 261, 262, 264, 265, 266, 267, 268, 271, 278, 280, 281, 283, 284, 285, 287, 288, 290, 291, 292, 293, 294, 297, 304, 306, 307, 309, 310, 311, 313, 314, 316, 317, 318, 319, 320, 323, 330, 332, 333, 335, 336, 337, 339, 340, 342, 343, 344, 345, 346, 349, 356, 358, 359, 361, 362, 363, 366, 367, 368, 369, 370, 373, 380, 382, 383, 385, 386, 387, 389, 390, 392, 393, 394, 395, 396, 399, 406, 408, 409, 411, 412, 413, 415, 416, 418, 419, 420, 421, 422, 425, 432, 434, 435, 437, 438, 439, 441, 442, 444, 445, 446, 447, 448, 451, 458, 460, 461, 463, 464, 465, 467, 468, 470, 471, 472, 473, 474, 477, 484, 486, 487, 489, 490, 491, 493, 494, 496, 497, 498, 499, 500, 503, 510, 512, 513, 515, 516, 517, 519, 520, 522, 523, 524, 525, 526, 529, 536, 538, 539, 541, 542, 543, 545, 546, 548, 549, 550, 551, 552, 555, 562, 564, 565, 567, 568, 569, 571, 572, 574, 575, 576, 577, 578, 581, 584, 585, 586, 588, 589, 591, 592, 593, 595, 596, 598, 599, 600, 602, 603, 605, 606, 607, 610, 611, 612, 615, 616, 617, 619, 620, 622, 623, 624, 626, 627, 629, 630, 631, 633, 634, 636, 637, 638, 639, 641, 642, 644, 645, 653, 655, 656, 658, 659, 660, 661, 662, 663, 664, 667, 669, 670, 672, 673, 674, 676, 677, 679, 680, 681, 684, 685, 686, 688, 689, 691, 692, 700, 703, 704, 705, 707, 708, 710, 711, 712, 713, 714, 715, 716, 719, 721, 722, 724, 725, 733, 734, 736, 737, 739, 740, 741, 743, 744, 746, 747, 748, 750, 751, 753, 754, 755, 757, 758, 760, 761, 762, 763, 764, 765, 766, 769, 771, 772, 774, 775, 776, 778, 779, 781, 782, 783, 785, 786, 788, 789, 790, 792, 793, 795, 796, 797, 799, 800, 802, 803, 811, 813, 814, 816, 817, 818, 820, 821, 823, 824, 825, 827, 828, 830, 831, 832, 833, 834, 835, 836, 839, 841, 842, 844, 845, 846, 847, 850, 851, 852, 859, 861, 862, 864, 865, 866, 867, 868, 869, 872, 879, 880, 881, 884, 886, 887, 889, 890, 891, 893, 894, 896, 897, 898, 899, 907, 908, 910, 911, 913, 914, 915, 916, 917, 918, 919, 929, 931, 932, 934, 935, 936, 938, 939, 941, 942, 943, 946, 947, 948, 949, 950, 951, 952, 962, 964, 965, 967, 968, 969, 971, 972, 974, 975, 976, 978, 979, 981, 982, 983, 985, 986, 988, 989, 990, 991, 992, 993, 994, 997, 999, 1000, 1002, 1003, 1004, 1006, 1007, 1009, 1010, 1011, 1013, 1014, 1016, 1017, 1018, 1020, 1021, 1023, 1024, 1025, 1027, 1028, 1030, 1031, 1039, 1041, 1042, 1044, 1045, 1046, 1048, 1049, 1051, 1052, 1053, 1055, 1056, 1058, 1059, 1060, 1062, 1063, 1065, 1066, 1067, 1069, 1070, 1072, 1073, 1074, 1077, 1078, 1079, 1081, 1082, 1084, 1085, 1086, 1089, 1090, 1091, 1093, 1094, 1096, 1097, 1098, 1101, 1102, 1103, 1105, 1106, 1108, 1109, 1110, 1113, 1114, 1115, 1116, 1117, 1118, 1119, 1122, 1123, 1125, 1126, 1128, 1129, 1130, 1132, 1133, 1135, 1136, 1137, 1139, 1140, 1142, 1143, 1144, 1146, 1147, 1149, 1150, 1151, 1153, 1154, 1156, 1157, 1158, 1160, 1161, 1163, 1164, 1165, 1168, 1169, 1170, 1172, 1173, 1175, 1176, 1177, 1179, 1180, 1182, 1183, 1184, 1187, 1188, 1189, 1192, 1193, 1194, 1196, 1197, 1199, 1200, 1201, 1204, 1205, 1206, 1208, 1209, 1211, 1212, 1213, 1215, 1216, 1218, 1219]
theorem as_ok : ∀ P, AS = (gk.heap_1 P).map (·.1) := fun _ => by kernel_rfl
theorem al_ok : ∀ P, ((gk.heap_1 P).all fun p => p.2.alive) = true := fun _ => by kernel_rfl
noncomputable def pick (is : List Nat) (l : List Stmt) : List Stmt := is.filterMap fun i => l[i]?
noncomputable def vw : Program := { PySem.Challenge.pw_xm0773_01 with main := { PySem.Challenge.pw_xm0773_01.main with body := pick [0, 2, 3, 6, 7, 8, 9, 10, 11, 12, 13, 14, 15, 16, 17, 18, 19, 20, 21, 22, 23, 24, 25, 26, 27, 28, 30, 31, 32, 33, 34, 35, 36, 37, 38, 41, 42, 44, 45, 46, 47, 48, 50, 51, 52, 53, 54, 55, 56, 57, 58, 59, 61, 62, 65, 66, 68, 69, 70, 72, 73, 74, 75, 76, 77, 78, 80, 81, 82, 83, 84, 85, 88, 89, 90, 91, 92, 93, 94, 95, 96, 97, 98, 99, 100, 101] PySem.Challenge.pw_xm0773_01.main.body } }
noncomputable def LS0 : List Str := [Str.ofString "AGGREGATES", Str.ofString "is_aggregate", Str.ofString "collation_of", Str.ofString "table_source", Str.ofString "table_from"]
noncomputable def dd : Option (DefRec × List (Str × Expr)) := defOf vw PySem.Challenge.rw_xm0773_01.row.name
noncomputable def TT : Prop := ∀ d kwd, dd = some (d, kwd) → WalkO vw LS0 (XL vw []) (hook gk.heap_1 AS as_ok al_ok).says PySem.Challenge.rw_xm0773_01.row.toRowW d kwd (fun f vs => PySem.call f vs)
end
section
noncomputable def lawS : Option Scope := dd.map fun x => x.1.scope
noncomputable def lawB (i : Nat) : Option Stmt := dd.bind fun x => x.1.body[i]?
noncomputable def ddV : { x // dd = some x } := ⟨_, rfl⟩
theorem lawS_of {x : DefRec × List (Str × Expr)} (e : dd = some x) : lawS = some x.1.scope := by
  have q := congrArg (Option.map fun x : DefRec × List (Str × Expr) => x.1.scope) e
  exact q
theorem lawB_of {x : DefRec × List (Str × Expr)} (e : dd = some x) (i : Nat) : lawB i = x.1.body[i]? := congrArg (fun y : Option (DefRec × List (Str × Expr)) => y.bind fun x => x.1.body[i]?) e
theorem lawS_at : lawS = some ddV.1.1.scope := lawS_of ddV.2
theorem lawB_at (i : Nat) : lawB i = ddV.1.1.body[i]? := lawB_of ddV.2 i
end
section
-- Bs
structure St (w : World) (p : Program) (loose : List Str) (mean : ExcName → Option Value) (mg mb : Str → Option Value) (A₀ : Around) (base : Heap) (outer : List Env) (h₀ : Heap) (L : Addr) (m : Str → Option Value) (s : Shared) (news : List (Addr × Obj)) : Prop where
  B : Below A₀ base outer h₀
  F : Fr h₀ L s.heap m
  X : (gk.heap_1 w.params).In h₀
  N : News h₀ L s.heap news
  T : Top p loose mean mg mb h₀
theorem upd_app {d : Addr} {o o' : Obj} {rest : List (Addr × Obj)} (hc : ∀ p ∈ rest, p.1 ≠ d) : ∀ {own : List (Addr × Obj)}, (∀ p ∈ own, p.1 ≠ d) → Upd d o o' (own ++ (d, o) :: rest) (own ++ (d, o') :: rest) := by
  intro own
  induction own with
  | nil => intro _; exact .head hc
  | cons q r ih => intro ha; exact .tail (ha q (.head _)) (ih fun p hp => ha p (.tail _ hp))
noncomputable def Flds (es : List DictEntry) (f : Str → Option Value) (b : Nat) : Prop := (∀ nm, getL nm es = some (f nm)) ∧ es.length ≤ b
theorem flds_nil : Flds [] (fun _ => none) 0 := ⟨fun _ => rfl, Nat.le_refl _⟩
theorem any_put {name : Str} {hsh : Int} {t : Tok} {v : Value} : ∀ es : List DictEntry, (putL name hsh (.str name t) v es).any (·.refKey) = es.any (·.refKey) := by
  intro es
  induction es with
  | nil => rfl
  | cons e r ih =>
    unfold putL
    split
    · rfl
    · rw [List.any_cons, List.any_cons, ih]
theorem find_put {name : Str} {hsh : Int} {t : Tok} {v : Value} (nm : Str) : ∀ es : List DictEntry, ((putL name hsh (.str name t) v es).find? (·.key.isStr nm)).map (·.val) = if nm = name then some v else (es.find? (·.key.isStr nm)).map (·.val) := by
  intro es
  induction es with
  | nil =>
    unfold putL
    by_cases h : nm = name
    · subst h; simp [Value.isStr]
    · have : ¬ (name == nm) = true := by simpa using fun z => h z.symm
      simp [Value.isStr, h, this]
  | cons e r ih =>
    unfold putL
    cases hk : e.key.isStr name with
    | true =>
      have hkey : ∃ u, e.key = .str name u := by
        cases hq : e.key <;> rw [hq] at hk <;> simp [Value.isStr] at hk
        exact ⟨_, by rw [hk]⟩
      obtain ⟨u, hu⟩ := hkey
      by_cases h : nm = name
      · subst h; simp [hu, Value.isStr]
      · have : ¬ (name == nm) = true := by simpa using fun z => h z.symm
        simp [hu, Value.isStr, h, this]
    | false =>
      simp only [Bool.false_eq_true, if_false, List.find?_cons]
      cases hn : e.key.isStr nm with
      | true =>
        by_cases h : nm = name
        · subst h; rw [hk] at hn; cases hn
        · simp [h]
      | false => exact ih
theorem getL_map {nm : Str} {es : List DictEntry} : getL nm es = match (es.find? (·.key.isStr nm)).map (·.val) with | some v => some (some v) | none => if es.any (·.refKey) then none else some none := by
  unfold getL
  cases es.find? (·.key.isStr nm) <;> rfl
theorem put_len {name : Str} {hsh : Int} {k v : Value} : ∀ es : List DictEntry, (putL name hsh k v es).length ≤ es.length + 1 := by
  intro es
  induction es with
  | nil => exact Nat.le_refl _
  | cons e r ih =>
    unfold putL
    split
    · simp
    · simpa using ih
theorem flds_put {name : Str} {hsh : Int} {t : Tok} {v : Value} {es : List DictEntry} {f : Str → Option Value} {b : Nat} (h : Flds es f b) : Flds (putL name hsh (.str name t) v es) (fun y => if y = name then some v else f y) (b + 1) := by
  refine ⟨fun nm => ?_, Nat.le_trans (put_len es) (Nat.succ_le_succ h.2)⟩
  have q := h.1 nm
  rw [getL_map] at q ⊢
  rw [find_put, any_put]
  by_cases hn : nm = name
  · simp [hn]
  · simp only [if_neg hn]
    exact q
noncomputable def Ins (nw : List (Addr × Obj)) (x C : Addr) (f : Str → Option Value) : Prop :=
  ∃ dx es n b, (x, instObj C dx) ∈ nw ∧ (dx, dictOf es n) ∈ nw ∧ Flds es f b
theorem Ins.mono {nw nw' : List (Addr × Obj)} {x C : Addr} {f : Str → Option Value} (h : Ins nw x C f) (hs : ∀ p ∈ nw, p ∈ nw') : Ins nw' x C f := by
  obtain ⟨dx, es, n, b, h1, h2, h3⟩ := h
  exact ⟨dx, es, n, b, hs _ h1, hs _ h2, h3⟩
theorem ins_mk {nw : List (Addr × Obj)} {x C dx : Addr} {es : List DictEntry} {n b : Nat} {f : Str → Option Value} (h1 : (x, instObj C dx) ∈ nw) (h2 : (dx, dictOf es n) ∈ nw) (h3 : Flds es f b) : Ins nw x C f := ⟨dx, es, n, b, h1, h2, h3⟩
section
variable {prog : Program} {w : World} {A : Around} {E : Value → Shared → Prop} {s : Shared} {h₀ : Heap} {L D : Addr} {m : Str → Option Value} {news news' : List (Addr × Obj)} {vs : List Value} {n : Nat} {k : Int} {t u : Tok} {v : Value}
theorem item_led {value slice : PySem.Expr} {Q : Value → Shared → Prop} (N : News h₀ L s.heap news) (hm : (D, listOf vs.toArray n) ∈ news) (h0 : 0 ≤ k) (hhi : k < 2 ^ 63) (hx : vs[k.toNat]? = some v) (h : Q v s)
    (hs : subscripted slice false (.ref D) (.int k u) = operate [.ref D, .int k u] (getItem (.ref D) (.int k u)) := by with_unfolding_all rfl) :
    wpAny (model prog w) A (subscriptTail value slice (.ref D) (.int k u)) Q E s :=
  have hl := PySem.IsL.isList (n := n) (N _ hm).1
  tail_any hl.typeIs slot_list_getitem.lookup (wpAny_getItem_list hl h0 hhi (by simpa using hx) h) hs
end
theorem fm_nonneg {x t : Int} (h : 0 < t) : 0 ≤ x.fmod t := by rw [Int.fmod_eq_emod_of_nonneg _ (Int.le_of_lt h)]; exact Int.emod_nonneg _ (Int.ne_of_gt h)
theorem fm_lt {x t : Int} (h : 0 < t) : x.fmod t < t := by rw [Int.fmod_eq_emod_of_nonneg _ (Int.le_of_lt h)]; exact Int.emod_lt_of_pos _ h
theorem fd_nonneg {x t : Int} (h : 0 < t) (hx : 0 ≤ x) : 0 ≤ x.fdiv t := by rw [Int.fdiv_eq_ediv_of_nonneg _ (Int.le_of_lt h)]; exact Int.ediv_nonneg hx (Int.le_of_lt h)
-- Cm2
section
variable {prog : Program} {w : World} {A : Around} {E : Value → Shared → Prop} {env : Env} {s : Shared} {h₀ : Heap} {L : Addr} {m : Str → Option Value} {news : List (Addr × Obj)}
noncomputable abbrev rangeO (a b c : Int) (t u v : Tok) : Obj := { cls := .type "range", data := .fields #[.int a t, .int b u, .int c v] }
theorem range_led1 {n : Int} {t : Tok} {Q : Value → Shared → Prop} (F : Fr h₀ L s.heap m) (N : News h₀ L s.heap news)
    (h : ∀ r h' tk t₁ u₁ v₁, Fr h₀ L h' m → News h₀ L h' ((r, rangeO 0 n 1 t₁ u₁ v₁) :: news) → (∀ p ∈ news, p.1 < r) → Q (.ref r) { s with heap := h', toks := tk }) : wpAny (model prog w) A (call (.type "range") [.int n t]) Q E s :=
  call_range_1 (h _ _ _ _ _ _ (F.push _) (N.push F _) fun p hp => Heap.lt_size (N p hp).1)
theorem range_led2 {a b : Int} {t u : Tok} {Q : Value → Shared → Prop} (F : Fr h₀ L s.heap m) (N : News h₀ L s.heap news)
    (h : ∀ r h' tk t₁ u₁ v₁, Fr h₀ L h' m → News h₀ L h' ((r, rangeO a b 1 t₁ u₁ v₁) :: news) → (∀ p ∈ news, p.1 < r) → Q (.ref r) { s with heap := h', toks := tk }) : wpAny (model prog w) A (call (.type "range") [.int a t, .int b u]) Q E s :=
  call_range_2 (h _ _ _ _ _ _ (F.push _) (N.push F _) fun p hp => Heap.lt_size (N p hp).1)
section
variable {elt target iter : Expr} {ifs : List Expr} {scope : Scope} {cl : List (Str × Addr)} {pos : Pos} {Q : Value → Shared → Prop}
theorem go_name {x : Str} {px : Pos} {I : Addr} {v : Value} {s' : Shared} {Q' : Unit → Shared → Prop} {E' : Value → Shared → Prop} (h : Q' () s') : wpAny (model prog w) A (letOwnedTupleGo (.Name x px) (.ref I) v) Q' E' s' := wpAny_of_eq (rfl : letOwnedTupleGo (.Name x px) (.ref I) v = pure ()) h
end
end
-- Wt
structure Col where
  p : Int
  c : Str
  d : Bool
noncomputable def colD (x : Col) : Dat := .tuple [.int x.p, .str x.c, .bool x.d]
noncomputable def fixD (x : Int × Str) : Dat := .tuple [.int x.1, .str x.2]
noncomputable abbrev tupO (vs : List Value) (n : Nat) : Obj := { cls := .type "tuple", data := .seq vs.toArray n }
theorem dat_int {nw : List (Addr × Obj)} {v : Value} {i : Int} (h : DatIn nw v (.int i)) : ∃ t, v = .int i t := by cases h; exact ⟨_, rfl⟩
theorem dat_str {nw : List (Addr × Obj)} {v : Value} {i : Str} (h : DatIn nw v (.str i)) : ∃ t, v = .str i t := by cases h; exact ⟨_, rfl⟩
theorem dat_bool {nw : List (Addr × Obj)} {v : Value} {i : Bool} (h : DatIn nw v (.bool i)) : v = .bool i := by cases h; rfl
theorem dat_cons {nw : List (Addr × Obj)} {vs : List Value} {d : Dat} {ds : List Dat} (h : DatAll nw vs (d :: ds)) : ∃ v vs', vs = v :: vs' ∧ DatIn nw v d ∧ DatAll nw vs' ds := by cases h; exact ⟨_, _, rfl, ‹_›, ‹_›⟩
theorem dat_nil {nw : List (Addr × Obj)} {vs : List Value} (h : DatAll nw vs []) : vs = [] := by cases h; rfl
theorem dat_tup {nw : List (Addr × Obj)} {v : Value} {ds : List Dat} (h : DatIn nw v (.tuple ds)) : ∃ a vs n, v = .ref a ∧ (a, tupO vs n) ∈ nw ∧ DatAll nw vs ds := by cases h; exact ⟨_, _, _, rfl, ‹_›, ‹_›⟩
theorem col_inv {nw : List (Addr × Obj)} {v : Value} {x : Col} (h : DatIn nw v (colD x)) : ∃ a n tp tc, v = .ref a ∧ (a, tupO [.int x.p tp, .str x.c tc, .bool x.d] n) ∈ nw := by
  obtain ⟨a, vs, n, rfl, hm, hA⟩ := dat_tup h
  obtain ⟨v1, r1, rfl, h1, hA⟩ := dat_cons hA
  obtain ⟨v2, r2, rfl, h2, hA⟩ := dat_cons hA
  obtain ⟨v3, r3, rfl, h3, hA⟩ := dat_cons hA
  obtain rfl := dat_nil hA
  obtain ⟨tp, rfl⟩ := dat_int h1
  obtain ⟨tc, rfl⟩ := dat_str h2
  obtain rfl := dat_bool h3
  exact ⟨a, n, tp, tc, rfl, hm⟩
theorem col_mk {nw : List (Addr × Obj)} {a : Addr} {n : Nat} {tp tc : Tok} {x : Col} (hm : (a, tupO [.int x.p tp, .str x.c tc, .bool x.d] n) ∈ nw) : DatIn nw (.ref a) (colD x) :=
  .tuple hm (.cons (.int _ _) (.cons (.str _ _) (.cons (.bool _) .nil)))
theorem fix_inv {nw : List (Addr × Obj)} {v : Value} {x : Int × Str} (h : DatIn nw v (fixD x)) : ∃ a n tp tc, v = .ref a ∧ (a, tupO [.int x.1 tp, .str x.2 tc] n) ∈ nw := by
  obtain ⟨a, vs, n, rfl, hm, hA⟩ := dat_tup h
  obtain ⟨v1, r1, rfl, h1, hA⟩ := dat_cons hA
  obtain ⟨v2, r2, rfl, h2, hA⟩ := dat_cons hA
  obtain rfl := dat_nil hA
  obtain ⟨tp, rfl⟩ := dat_int h1
  obtain ⟨tc, rfl⟩ := dat_str h2
  exact ⟨a, n, tp, tc, rfl, hm⟩
theorem fix_mk {nw : List (Addr × Obj)} {a : Addr} {n : Nat} {tp tc : Tok} {x : Int × Str} (hm : (a, tupO [.int x.1 tp, .str x.2 tc] n) ∈ nw) : DatIn nw (.ref a) (fixD x) :=
  .tuple hm (.cons (.int _ _) (.cons (.str _ _) .nil))
theorem datAll_at {nw : List (Addr × Obj)} : ∀ {vs : List Value} {ds : List Dat} {i : Nat} {v : Value}, DatAll nw vs ds → vs[i]? = some v → ∃ d, ds[i]? = some d ∧ DatIn nw v d := by
  intro vs
  induction vs with
  | nil => intro ds i v h e; simp at e
  | cons u r ih =>
    intro ds i v h e
    cases h with
    | cons h1 h2 =>
      cases i with
      | zero => simp at e; subst e; exact ⟨_, rfl, h1⟩
      | succ j => simp at e; obtain ⟨d, hd, hD⟩ := ih h2 e; exact ⟨d, by simpa using hd, hD⟩
theorem datAll_snoc {nw : List (Addr × Obj)} : ∀ {vs : List Value} {ds : List Dat} {v : Value} {d : Dat}, DatAll nw vs ds → DatIn nw v d → DatAll nw (vs ++ [v]) (ds ++ [d]) := by
  intro vs
  induction vs with
  | nil => intro ds v d h hd; cases h; exact .cons hd .nil
  | cons u r ih => intro ds v d h hd; cases h with | cons h1 h2 => exact .cons h1 (ih h2 hd)
theorem datAll_take {nw : List (Addr × Obj)} : ∀ {vs : List Value} {ds : List Dat} (n : Nat), DatAll nw vs ds → DatAll nw (vs.take n) (ds.take n) := by
  intro vs
  induction vs with
  | nil => intro ds n h; cases h; simp; exact .nil
  | cons u r ih => intro ds n h; cases h with | cons h1 h2 => cases n with | zero => exact .nil | succ k => exact .cons h1 (ih k h2)
theorem datAll_drop {nw : List (Addr × Obj)} : ∀ {vs : List Value} {ds : List Dat} (n : Nat), DatAll nw vs ds → DatAll nw (vs.drop n) (ds.drop n) := by
  intro vs
  induction vs with
  | nil => intro ds n h; cases h; simp; exact .nil
  | cons u r ih => intro ds n h; cases h with | cons h1 h2 => cases n with | zero => exact .cons h1 h2 | succ k => exact ih k h2
section
variable {prog : Program} {w : World} {A : Around} {E : Value → Shared → Prop} {s : Shared} {h₀ : Heap} {L a : Addr} {news : List (Addr × Obj)} {vs : List Value} {n : Nat} {k : Int} {u : Tok} {v : Value} {j : Nat}
theorem item_tup {value slice : PySem.Expr} {Q : Value → Shared → Prop} (N : News h₀ L s.heap news) (hm : (a, tupO vs n) ∈ news) (hlo : -(2 ^ 63) ≤ k) (hhi : k < 2 ^ 63) (hj : seqIndex? k vs.length = some j) (hx : vs[j]? = some v) (h : Q v s)
    (hs : subscripted slice false (.ref a) (.int k u) = operate [.ref a, .int k u] (getItem (.ref a) (.int k u)) := by with_unfolding_all rfl) :
    wpAny (model prog w) A (subscriptTail value slice (.ref a) (.int k u)) Q E s :=
  item_tupleT (l := vs) ⟨_, (N _ hm).1, rfl, n, rfl⟩ hlo hhi (by simpa using hj) (by simpa using hx) h hs
end
theorem mh {α : Type} {p : α} {l : List α} : p ∈ p :: l := .head _
theorem mt {α : Type} {p q : α} {l : List α} (h : p ∈ l) : p ∈ q :: l := .tail _ h
theorem ml {α : Type} {p : α} {l r : List α} (h : p ∈ l) : p ∈ l ++ r := List.mem_append_left _ h
theorem mr {α : Type} {p : α} {l r : List α} (h : p ∈ r) : p ∈ l ++ r := List.mem_append_right _ h
theorem fix_ok {x : Int × Str} (h : PyData.strOk x.2 = true) : kqdOk 8 (fixD x) = true := by simp [fixD, kqdOk, h]
theorem fixs_ok {fx : List (Int × Str)} (h : ∀ x ∈ fx, PyData.strOk x.2 = true) : ∀ d ∈ fx.map fixD, kqdOk 8 d = true := by
  intro d hd
  obtain ⟨x, hx, rfl⟩ := List.mem_map.mp hd
  exact fix_ok (h x hx)
theorem fixD_inj {x y : Int × Str} : fixD x = fixD y ↔ x = y := by
  obtain ⟨a, b⟩ := x; obtain ⟨c, d⟩ := y
  simp [fixD]
theorem mem_fix {x : Int × Str} {fx : List (Int × Str)} : fixD x ∈ fx.map fixD ↔ x ∈ fx := by
  constructor
  · intro h
    obtain ⟨y, hy, e⟩ := List.mem_map.mp h
    exact fixD_inj.mp e ▸ hy
  · exact fun h => List.mem_map_of_mem h
theorem take_at {α : Type} {l : List α} {i : Nat} {x : α} (h : l[i]? = some x) : l.take (i + 1) = l.take i ++ [x] := by
  rw [List.take_add_one, h]; rfl
theorem dec_t {p : Prop} {i : Decidable p} (h : @decide p i = true) : p := of_decide_eq_true h
theorem dec_f {p : Prop} {i : Decidable p} (h : @decide p i = false) : ¬ p := of_decide_eq_false h
theorem tr_str {prog : Program} {w : World} {A : Around} {E : Value → Shared → Prop} {s : Shared} {x : Str} {t : Tok} {Q : Bool → Shared → Prop} (h0 : x.cps.size ≠ 0) (h1 : x.cps.size ≤ 64) (h : ∀ tk, Q true { s with toks := tk }) : wpAny (model prog w) A (truthy (.str x t)) Q E s := by
  have hl : x.length = x.cps.size := rfl
  refine P.truthy_str (by rw [hl]; omega) ?_
  have e : ((x.length : Int) != 0) = true := by rw [hl]; simpa using h0
  rw [e]
  exact h _
theorem look_at {x : Str} {i : Decidable (x = x)} {u r₀ : Option Value} : (@ite (Option Value) (x = x) i u r₀) = u := if_pos rfl
-- Bnm
noncomputable def colS (x : Str × Str × Str) : Dat := .tuple [.str x.1, .str x.2.1, .str x.2.2]
theorem colS_inv {nw : List (Addr × Obj)} {v : Value} {x : Str × Str × Str} (h : DatIn nw v (colS x)) : ∃ a n t1 t2 t3, v = .ref a ∧ (a, tupO [.str x.1 t1, .str x.2.1 t2, .str x.2.2 t3] n) ∈ nw := by
  obtain ⟨a, vs, n, rfl, hm, hA⟩ := dat_tup h
  obtain ⟨v1, r1, rfl, h1, hA⟩ := dat_cons hA
  obtain ⟨v2, r2, rfl, h2, hA⟩ := dat_cons hA
  obtain ⟨v3, r3, rfl, h3, hA⟩ := dat_cons hA
  obtain rfl := dat_nil hA
  obtain ⟨t1, rfl⟩ := dat_str h1
  obtain ⟨t2, rfl⟩ := dat_str h2
  obtain ⟨t3, rfl⟩ := dat_str h3
  exact ⟨a, n, t1, t2, t3, rfl, hm⟩
noncomputable def SrcIs (nw : List (Addr × Obj)) (so : Addr) (num : Int) (cols : List (Str × Str × Str)) (tb : Value) : Prop :=
  ∃ fs t l vs k, Ins nw so 834 fs ∧ fs (Str.ofString "number") = some (.int num t) ∧ fs (Str.ofString "columns") = some (.ref l) ∧ fs (Str.ofString "table") = some tb ∧ (l, listOf vs.toArray k) ∈ nw ∧ DatAll nw vs (cols.map colS)
theorem SrcIs.mono {nw nw' : List (Addr × Obj)} {so : Addr} {num : Int} {cols : List (Str × Str × Str)} {tb : Value} (h : SrcIs nw so num cols tb) (hs : ∀ p ∈ nw, p ∈ nw') : SrcIs nw' so num cols tb := by
  obtain ⟨fs, t, l, vs, k, h1, h2, h3, h4, h5, h6⟩ := h
  exact ⟨fs, t, l, vs, k, h1.mono hs, h2, h3, h4, hs _ h5, DatAll.mono hs h6⟩
noncomputable def NameIs (nw : List (Addr × Obj)) (x : Addr) (num pl : Int) (c : Str) : Prop :=
  ∃ fs t1 t2 t3, Ins nw x 138 fs ∧ fs (Str.ofString "source") = some (.int num t1) ∧ fs (Str.ofString "place") = some (.int pl t2) ∧ fs (Str.ofString "collation") = some (.str c t3)
theorem NameIs.mono {nw nw' : List (Addr × Obj)} {x : Addr} {num pl : Int} {c : Str} (h : NameIs nw x num pl c) (hs : ∀ p ∈ nw, p ∈ nw') : NameIs nw' x num pl c := by
  obtain ⟨fs, t1, t2, t3, h1, h2⟩ := h
  exact ⟨fs, t1, t2, t3, h1.mono hs, h2⟩
noncomputable def binary : Str := Str.ofString "binary"
noncomputable def collAt (cols : List (Str × Str × Str)) (pl : Int) : Str := if pl < 0 then binary else match cols[pl.toNat]? with | some x => x.2.2 | none => binary
-- Cst
noncomputable def lowc (c : Nat) : Nat := if 65 ≤ c ∧ c ≤ 90 then c + 32 else c
noncomputable def foldS (x : Str) : Str := Txt.join (Str.ofString "") (x.cps.toList.map fun c => ⟨#[lowc c]⟩)
theorem ltA {c : Nat} : ({ cps := #[c] } : Str).cps.toList < (Str.ofString "A").cps.toList ↔ c < 65 := by
  rw [show (Str.ofString "A").cps.toList = [65] from by decide +kernel]
  simp [List.cons_lt_cons_iff]
theorem gtZ {c : Nat} : (Str.ofString "Z").cps.toList < ({ cps := #[c] } : Str).cps.toList ↔ 90 < c := by
  rw [show (Str.ofString "Z").cps.toList = [90] from by decide +kernel]
  simp [List.cons_lt_cons_iff]
theorem fold_len {c : Nat → Nat} (l : List Nat) (a : Nat) : List.foldl (fun x (y : Str) => x + y.length + (Str.ofString "").length) a (l.map fun i => (⟨#[c i]⟩ : Str)) = a + l.length := by
  induction l generalizing a with
  | nil => rfl
  | cons x r ih =>
    rw [List.map_cons, List.foldl_cons, ih, List.length_cons, show (Str.ofString "").length = 0 from by decide +kernel]
    show a + 1 + 0 + r.length = a + (r.length + 1)
    omega
theorem joinOk_low {l : List Nat} (h : l.length ≤ 64) : JoinOk (Str.ofString "") (l.map fun c => (⟨#[lowc c]⟩ : Str)) = true := by
  unfold JoinOk
  rw [List.foldl_toArray, fold_len]
  have e : sizeLine = 2 ^ 24 := sizeLine_eq
  unfold Builtin.Str.tooLong
  simp only [Nat.zero_add, Bool.not_eq_true', decide_eq_false_iff_not]
  omega
theorem low_snoc {x : Str} {i c d : Nat} {u : Tok} {l : List (Str × Tok)} (hc : x.cps[i]? = some c) (hd : d = lowc c) (hl : l.map (·.1) = (x.cps.toList.take i).map fun c => (⟨#[lowc c]⟩ : Str)) :
    (l ++ [((⟨#[d]⟩ : Str), u)]).map (·.1) = (x.cps.toList.take (i + 1)).map fun c => (⟨#[lowc c]⟩ : Str) := by
  have hx : x.cps.toList[i]? = some c := by simpa using hc
  rw [take_at hx, List.map_append, List.map_append, hl, hd]
  rfl
theorem val_snoc {l : List (Str × Tok)} {x : Str} {u : Tok} : strValues l ++ [Value.str x u] = strValues (l ++ [(x, u)]) := by simp [strValues]
-- Itr
section
variable {prog : Program} {w : World} {A : Around} {E : Value → Shared → Prop} {s : Shared} {h₀ : Heap} {L l : Addr} {m : Str → Option Value} {news : List (Addr × Obj)} {vs : List Value} {k : Nat}
theorem pick_drop {vs : List Value} {n : Int} (h0 : 0 ≤ n) (h1 : n ≤ vs.length) : slicePick vs.toArray (some n) none none = (vs.drop n.toNat).toArray := by
  have e : sliceBounds (some n) none none vs.toArray.size = (((n.toNat : Nat) : Int), ((vs.length : Nat) : Int), 1) := by
    simp only [List.size_toArray]
    unfold sliceBounds
    simp
    omega
  rw [kmk_pick_nat _ e]
  congr 1
  simp only [List.toList_toArray]
  exact List.take_of_length_le (by simp)
theorem pick_take {vs : List Value} {n : Int} (h0 : 0 ≤ n) (h1 : n ≤ vs.length) : slicePick vs.toArray none (some n) none = (vs.take n.toNat).toArray := by
  have e : sliceBounds none (some n) none vs.toArray.size = (((0 : Nat) : Int), ((n.toNat : Nat) : Int), 1) := by
    simp only [List.size_toArray]
    unfold sliceBounds
    simp
    omega
  rw [kmk_pick_nat _ e]
  simp
theorem add_led {l2 : Addr} {ws : List Value} {k2 : Nat} {Q : Value → Shared → Prop} (F : Fr h₀ L s.heap m) (N : News h₀ L s.heap news) (hm : (l, listOf vs.toArray k) ∈ news) (hm2 : (l2, listOf ws.toArray k2) ∈ news) (h1 : vs.length ≤ 1000) (h2 : ws.length ≤ 1000)
    (h : ∀ D h', Fr h₀ L h' m → News h₀ L h' ((D, listOf (vs ++ ws).toArray 0) :: news) → (∀ p ∈ news, p.1 < D) → Q (.ref D) { s with heap := h' }) :
    wpAny (model prog w) A (binaryOp .Add (.ref l) (.ref l2)) Q E s :=
  add_lists (hsz := by rw [sizeLine_eq]; omega) F N (PySem.IsL.isList (n := k) (N _ hm).1) (PySem.IsL.isList (n := k2) (N _ hm2).1) fun h' F' N' => h _ h' F' N' fun p hp => Heap.lt_size (N p hp).1
end
-- Onm
noncomputable def ExprIs (nw : List (Addr × Obj)) (x : Addr) : Option (Int × Int × Str) → Prop
  | none => ∃ f, Ins nw x 112 f ∨ Ins nw x 190 f
  | some (num, pl, c) => c.cps.size ≠ 0 ∧ c.cps.size ≤ 64 ∧ (NameIs nw x num pl c ∨ ∃ f y w t c0, Ins nw x 448 f ∧ f (Str.ofString "collation") = some (.str w t) ∧ f (Str.ofString "value") = some (.ref y) ∧ NameIs nw y num pl c0 ∧ c = foldS w ∧ w.cps.size ≤ 64)
theorem ExprIs.mono {nw nw' : List (Addr × Obj)} {x : Addr} {e : Option (Int × Int × Str)} (h : ExprIs nw x e) (hs : ∀ p ∈ nw, p ∈ nw') : ExprIs nw' x e := by
  match e, h with
  | none, ⟨f, h⟩ => exact ⟨f, h.imp (fun h => h.mono hs) fun h => h.mono hs⟩
  | some (num, pl, c), ⟨h1, h2, h⟩ => exact ⟨h1, h2, h.imp (fun h => h.mono hs) fun ⟨f, y, w, t, c0, a, b, c, d, e⟩ => ⟨f, y, w, t, c0, a.mono hs, b, c, d.mono hs, e⟩⟩
-- Rid
noncomputable def isRow (p : Int) (hk : Bool) : Bool := decide (p < 0) || (hk && p == 1)
noncomputable def TabIs (nw : List (Addr × Obj)) (tb : Addr) (hk : Bool) : Prop := ∃ fs t, Ins nw tb 992 fs ∧ fs (Str.ofString "rowid_place") = some (if hk = true then Value.int 1 t else Value.none)
theorem TabIs.mono {nw nw' : List (Addr × Obj)} {tb : Addr} {hk : Bool} (h : TabIs nw tb hk) (hs : ∀ p ∈ nw, p ∈ nw') : TabIs nw' tb hk := by
  obtain ⟨fs, t, h1, h2⟩ := h
  exact ⟨fs, t, h1.mono hs, h2⟩
-- Pth
inductive PK where
  | scan | range | rowid | index
noncomputable def PK.word : PK → Str
  | .scan => Str.ofString "scan" | .range => Str.ofString "rowid_range" | .rowid => Str.ofString "rowid" | .index => Str.ofString "index"
structure PathD where
  kind : PK
  cols : List Col
  eqn : Nat
  hasList : Bool
  single : Bool
noncomputable def PathIs (nw : List (Addr × Obj)) (x : Addr) (d : PathD) : Prop :=
  ∃ (f : Str → Option Value) (t : Tok) (li eq : Addr) (evs : List Value) (ek : Nat) (ix : Addr) (fi : Str → Option Value) (cl : Addr) (cvs : List Value) (ck : Nat), Ins nw x 764 f ∧ f (Str.ofString "kind") = some (.str d.kind.word t) ∧ f (Str.ofString "in_list") = some (if d.hasList = true then .ref li else .none) ∧ f (Str.ofString "is_single") = some (.bool d.single) ∧
    f (Str.ofString "equals") = some (.ref eq) ∧ (eq, listOf evs.toArray ek) ∈ nw ∧ evs.length = d.eqn ∧
    (d.kind = .index → f (Str.ofString "index") = some (.ref ix) ∧ Ins nw ix 950 fi ∧ fi (Str.ofString "columns") = some (.ref cl) ∧ (cl, listOf cvs.toArray ck) ∈ nw ∧ DatAll nw cvs (d.cols.map colD))
theorem PathIs.mono {nw nw' : List (Addr × Obj)} {x : Addr} {d : PathD} (h : PathIs nw x d) (hs : ∀ p ∈ nw, p ∈ nw') : PathIs nw' x d := by
  obtain ⟨f, t, li, eq, evs, ek, ix, fi, cl, cvs, ck, h1, h2, h3, h4, h5, h6, h7, h8⟩ := h
  exact ⟨f, t, li, eq, evs, ek, ix, fi, cl, cvs, ck, h1.mono hs, h2, h3, h4, h5, hs _ h6, h7, fun q => have ⟨a, b, c, d, e⟩ := h8 q; ⟨a, b.mono hs, c, hs _ d, DatAll.mono hs e⟩⟩
noncomputable def rowidCol : Col := ⟨-1, Str.ofString "binary", false⟩
noncomputable def ordOf (d : PathD) (hasT : Bool) : List Col :=
  if d.hasList || !hasT then [] else match d.kind with
    | .scan | .range => [rowidCol]
    | .rowid => []
    | .index => d.cols.drop d.eqn ++ [rowidCol]
-- Mut
section
variable {prog : Program} {w : World} {A : Around} {E : Value → Shared → Prop} {s : Shared} {h₀ : Heap} {L D l : Addr} {m : Str → Option Value} {news news' : List (Addr × Obj)} {vs : List Value} {n k : Nat} {v x : Value}
theorem append_led {Q : Value → Shared → Prop} (F : Fr h₀ L s.heap m) (N : News h₀ L s.heap news) (U : Upd D (listOf vs.toArray n) (listOf (vs ++ [x]).toArray (n + 1)) news news') (hz : vs.length ≤ 1000)
    (h : ∀ h', Fr h₀ L h' m → News h₀ L h' news' → Q .none { s with heap := h' }) : wpAny (model prog w) A (call (.builtin "list.append") [.ref D, x]) Q E s :=
  append_K (its := vs.toArray) (n := n) F N (by simpa using U) h (by rw [List.size_toArray, sizeLine_eq]; omega)
theorem pop_led {u : Tok} {Q : Value → Shared → Prop} (F : Fr h₀ L s.heap m) (N : News h₀ L s.heap news) (U : Upd D (listOf (v :: vs).toArray n) (listOf vs.toArray (n + 1)) news news') (hz : vs.length ≤ 1000)
    (h : ∀ h', Fr h₀ L h' m → News h₀ L h' news' → Q v { s with heap := h' }) : wpAny (model prog w) A (call (.builtin "list.pop") [.ref D, .int 0 u]) Q E s :=
  kl_popAt (its := (v :: vs).toArray) (p := []) (q := vs) (k := 0) (y := v) F N (by decide) (by simp [seqIndex?]) rfl U (by simp; rw [sizeLine_eq]; omega) h
theorem foldl_rep {v : Value} : ∀ (k : Nat) (a : Array Value), List.foldl (fun x1 x2 => x1 ++ x2) a (List.replicate k #[v]) = a ++ (List.replicate k v).toArray := by
  intro k
  induction k with
  | zero => intro a; simp
  | succ k ih =>
    intro a
    rw [List.replicate_succ, List.foldl_cons, ih, List.replicate_succ]
    apply Array.toList_inj.mp
    simp
theorem mul_led {i : Int} {u : Tok} {Q : Value → Shared → Prop} (F : Fr h₀ L s.heap m) (N : News h₀ L s.heap news) (hm : (l, listOf [v].toArray k) ∈ news) (h0 : 0 ≤ i) (h1 : i ≤ 64)
    (h : ∀ D h', Fr h₀ L h' m → News h₀ L h' ((D, listOf (List.replicate i.toNat v).toArray 0) :: news) → (∀ p ∈ news, p.1 < D) → Q (.ref D) { s with heap := h' }) : wpAny (model prog w) A (binaryOp .Mult (.ref l) (.int i u)) Q E s := by
  refine mul_list F N (N _ hm).1 (by omega) (by omega) (by simp; omega) fun h' F' N' => h _ h' F' ?_ fun p hp => Heap.lt_size (N p hp).1
  have e : (if (List.toArray [v]).isEmpty = true then 0 else i.toNat) = i.toNat := by simp
  rw [e] at N'
  have q : List.foldl (fun x1 x2 => x1 ++ x2) #[] (List.replicate i.toNat (List.toArray [v])) = (List.replicate i.toNat v).toArray := by
    have := foldl_rep (v := v) i.toNat #[]
    simpa using this
  rw [q] at N'
  exact N'
end
section
variable {prog : Program} {w : World} {A : Around} {E : Value → Shared → Prop} {s : Shared} {h₀ : Heap} {L D l : Addr} {news : List (Addr × Obj)} {vs : List Value} {n k : Nat}
theorem ne_nil {Q : Value → Shared → Prop} (N : News h₀ L s.heap news) (hm : (l, listOf vs.toArray k) ∈ news) (hm2 : (D, listOf ([] : List Value).toArray n) ∈ news) (hu : A.units < cLine) (h : Q (.bool (decide (vs.length ≠ 0))) s) : wpAny (model prog w) A (compareOp .NotEq (.ref l) (.ref D)) Q E s := by
  have h1 := PySem.IsL.isList (n := k) (N _ hm).1
  have h2 := PySem.IsL.isList (n := n) (N _ hm2).1
  cases vs with
  | nil => exact PySem.SeqAt.RcNeAt.lists (e := fun _ => true) h1 h2 rfl hu (fun j a _ => absurd a (by simp)) prog w E Q h
  | cons v r => exact PySem.SeqAt.RcNeAt.lists_lengths h1 h2 (by simp) hu prog w E Q h
theorem eq_nil {Q : Value → Shared → Prop} (N : News h₀ L s.heap news) (hm : (l, listOf vs.toArray k) ∈ news) (hm2 : (D, listOf ([] : List Value).toArray n) ∈ news) (hu : A.units < cLine) (h : Q (.bool (decide (vs.length = 0))) s) : wpAny (model prog w) A (compareOp .Eq (.ref l) (.ref D)) Q E s := by
  have h1 := PySem.IsL.isList (n := k) (N _ hm).1
  have h2 := PySem.IsL.isList (n := n) (N _ hm2).1
  cases vs with
  | nil => exact PySem.SeqAt.RcAt.lists (e := fun _ => true) h1 h2 rfl hu (fun j a _ => absurd a (by simp)) prog w E Q h
  | cons v r => exact PySem.SeqAt.RcAt.lists_lengths h1 h2 (by simp) hu prog w E Q h
end
theorem fd_le {x k : Int} (hk : 0 < k) (h : 0 ≤ x) : x.fdiv k ≤ x := by rw [Int.fdiv_eq_ediv_of_nonneg _ (Int.le_of_lt hk)]; exact Int.ediv_le_self _ h
-- Pnew
noncomputable def PathF (f : Str → Option Value) (kd : Str) (iv : Value) (eq ea : Addr) (li : Value) (sg : Bool) : Prop :=
  (∃ t, f (Str.ofString "kind") = some (.str kd t)) ∧ f (Str.ofString "index") = some iv ∧ f (Str.ofString "equals") = some (.ref eq) ∧ f (Str.ofString "equal_affinities") = some (.ref ea) ∧ f (Str.ofString "low") = some .none ∧ f (Str.ofString "high") = some .none ∧ f (Str.ofString "in_list") = some li ∧ f (Str.ofString "is_single") = some (.bool sg) ∧ f (Str.ofString "is_led") = none
-- Nix
noncomputable def BoundIs (nw : List (Addr × Obj)) (v : Value) : Prop := ∃ y g bv, v = .ref y ∧ Ins nw y 662 g ∧ g (Str.ofString "value") = some bv ∧ handedIn bv = true ∧ g (Str.ofString "affinity") = some .none
-- Cmap
noncomputable def fixOf (d : PathD) : List (Int × Str) := match d.kind with | .index => (d.cols.take d.eqn).map fun x => (x.p, x.c) | _ => []
-- Owk
structure Tm where
  x : Addr
  e : Option (Int × Int × Str)
  f : Bool
noncomputable def TermIs (nw : List (Addr × Obj)) (v : Value) (t : Tm) : Prop := ∃ (a : Addr) (g : Str → Option Value), v = .ref a ∧ Ins nw a 526 g ∧ g (Str.ofString "value") = some (.ref t.x) ∧ g (Str.ofString "descending") = some (.bool t.f) ∧ ExprIs nw t.x t.e
noncomputable def LeftIs (nw : List (Addr × Obj)) (v : Value) (t : Tm) : Prop := ∃ (a : Addr) (n : Nat), v = .ref a ∧ (a, tupO [.ref t.x, .bool t.f] n) ∈ nw ∧ ExprIs nw t.x t.e
noncomputable def All2 (P : Value → Tm → Prop) (vs : List Value) (ts : List Tm) : Prop := vs.length = ts.length ∧ ∀ (i : Nat) (v : Value) (t : Tm), vs[i]? = some v → ts[i]? = some t → P v t
theorem All2.head {P : Value → Tm → Prop} {vs : List Value} {t : Tm} {ts : List Tm} (h : All2 P vs (t :: ts)) : ∃ v vs', vs = v :: vs' ∧ P v t ∧ All2 P vs' ts := by
  cases vs with
  | nil => have := h.1; simp at this
  | cons v r => exact ⟨v, r, rfl, h.2 0 v t rfl rfl, by have := h.1; simpa using this, fun i x y a b => h.2 (i + 1) x y (by simpa using a) (by simpa using b)⟩
theorem All2.nil {P : Value → Tm → Prop} {vs : List Value} (h : All2 P vs []) : vs = [] := by
  cases vs with
  | nil => rfl
  | cons v r => have := h.1; simp at this
-- Pla
noncomputable def sameB (c : Col) (pl : Int) (cc : Str) (hk : Bool) : Bool := if isRow c.p hk then isRow pl hk else c.p == pl && c.c == cc
noncomputable def lvl (num : Int) (hk : Bool) (fx : List (Int × Str)) : List Tm → List Col → Option Bool → Bool → Nat × Option Bool × Bool
  | [], _, b, o => (0, b, o)
  | t :: ts, cols, b, o => match t.e with
    | none => (0, b, o)
    | some (nm, pl, cc) =>
      if nm ≠ num then (0, b, o)
      else if o = true ∨ (pl, cc) ∈ fx then ((lvl num hk fx ts cols b o).1 + 1, (lvl num hk fx ts cols b o).2)
      else match cols with
        | [] => (0, b, o)
        | c :: cs => if sameB c pl cc hk = false then (0, b, o)
          else if b = some (!(t.f != c.d)) then (0, b, o)
          else ((lvl num hk fx ts cs (some (t.f != c.d)) (isRow c.p hk)).1 + 1, (lvl num hk fx ts cs (some (t.f != c.d)) (isRow c.p hk)).2)
noncomputable def bkV : Option Bool → Value
  | none => .none
  | some b => .bool b
noncomputable abbrev Row := Col
noncomputable def rowOf (num : Int) (t : Tm) : Option Row := match t.e with
  | none => none
  | some (nm, pl, cc) => if nm = num then some ⟨pl, cc, t.f⟩ else none
noncomputable def ledOf (fx : List (Int × Str)) (rs : List Row) : List Row := rs.filter fun r => !decide ((r.p, r.c) ∈ fx)
noncomputable def aheadOf (hk : Bool) : List Col → List Col
  | [] => []
  | c :: cs => if isRow c.p hk = true then [c] else c :: aheadOf hk cs
noncomputable def okB (hk t₀ : Bool) (r : Row) (c : Col) : Bool := ((isRow r.p hk && isRow c.p hk) || (r.p == c.p && r.c == c.c)) && ((r.d == c.d) == t₀)
noncomputable def okAll (hk t₀ : Bool) : List Row → List Col → Bool
  | r :: rs, c :: cs => okB hk t₀ r c && okAll hk t₀ rs cs
  | _, _ => true
noncomputable def turn0 (led : List Row) (ahead : List Col) : Bool := match led, ahead with
  | r :: _, c :: _ => r.d == c.d
  | _, _ => true
noncomputable def letB (led : List Row) (ahead : List Col) (single hk : Bool) : Bool :=
  if single || led.isEmpty then true else if ahead.isEmpty then false else okAll hk (turn0 led ahead) led ahead
noncomputable def isLet (rows : List (Option Row)) (cols : List Col) (fx : List (Int × Str)) (single hk : Bool) : Bool :=
  if rows.any (·.isNone) then false else letB (ledOf fx (rows.filterMap id)) (aheadOf hk cols) single hk
theorem lvl_le (num : Int) (hk : Bool) (fx : List (Int × Str)) : ∀ (ts : List Tm) (cols : List Col) (b : Option Bool) (o : Bool), (lvl num hk fx ts cols b o).1 ≤ ts.length := by
  intro ts
  induction ts with
  | nil => intros; exact Nat.le_refl _
  | cons t ts ih =>
    intro cols b o
    unfold lvl
    repeat' split
    all_goals first | exact Nat.zero_le _ | exact Nat.succ_le_succ (ih _ _ _)
theorem okAll_snoc {hk t₀ : Bool} {r : Row} : ∀ {led : List Row} {ah : List Col}, okAll hk t₀ (led ++ [r]) ah = (okAll hk t₀ led ah && match ah[led.length]? with | some c => okB hk t₀ r c | none => true) := by
  intro led
  induction led with
  | nil => intro ah; cases ah with | nil => rfl | cons c cs => simp [okAll]
  | cons x xs ih => intro ah; cases ah with
    | nil => rfl
    | cons c cs =>
      show (okB hk t₀ x c && okAll hk t₀ (xs ++ [r]) cs) = ((okB hk t₀ x c && okAll hk t₀ xs cs) && _)
      rw [ih, Bool.and_assoc]
      congr 2
theorem ledOf_snoc {fx : List (Int × Str)} {rs : List Row} {r : Row} : ledOf fx (rs ++ [r]) = if (r.p, r.c) ∈ fx then ledOf fx rs else ledOf fx rs ++ [r] := by
  unfold ledOf
  rw [List.filter_append]
  by_cases h : (r.p, r.c) ∈ fx <;> simp [h]
theorem ok_same {hk t₀ : Bool} {r : Row} {c : Col} : okB hk t₀ r c = (sameB c r.p r.c hk && ((r.d == c.d) == t₀)) := by
  unfold okB sameB
  congr 1
  by_cases h : isRow c.p hk = true
  · simp only [h, Bool.and_true, if_true]
    cases hr : isRow r.p hk with
    | true => rfl
    | false =>
      have : (r.p == c.p) = false := by
        cases hq : r.p == c.p with
        | false => rfl
        | true => rw [eq_of_beq hq] at hr; rw [hr] at h; cases h
      simp [this]
  · have h' : isRow c.p hk = false := by cases hq : isRow c.p hk with | true => exact absurd hq h | false => rfl
    simp only [h', Bool.and_false, Bool.false_or, Bool.false_eq_true, if_false]
    have e1 : (r.p == c.p) = (c.p == r.p) := by rw [Bool.eq_iff_iff]; simp; exact ⟨Eq.symm, Eq.symm⟩
    have e2 : (r.c == c.c) = (c.c == r.c) := by rw [Bool.eq_iff_iff]; simp; exact ⟨Eq.symm, Eq.symm⟩
    rw [e1, e2]
theorem okAll_pre {hk t₀ : Bool} : ∀ {a b : List Row} {ah : List Col}, okAll hk t₀ (a ++ b) ah = true → okAll hk t₀ a ah = true := by
  intro a
  induction a with
  | nil => intros; cases ‹List Col› <;> rfl
  | cons x xs ih => intro b ah h; cases ah with
    | nil => rfl
    | cons c cs =>
      simp only [List.cons_append, okAll, Bool.and_eq_true] at h ⊢
      exact ⟨h.1, ih h.2⟩
theorem letB_pre {a b : List Row} {ah : List Col} {sg hk : Bool} (h : letB (a ++ b) ah sg hk = true) : letB a ah sg hk = true := by
  cases a with
  | nil => simp [letB]
  | cons x xs =>
    unfold letB at h ⊢
    cases sg
    · cases ah with
      | nil => simp at h
      | cons c cs =>
        simp only [Bool.false_or, List.cons_append, List.isEmpty_cons, Bool.false_eq_true, if_false] at h ⊢
        exact okAll_pre (b := b) h
    · simp
theorem ledOf_app {fx : List (Int × Str)} {a b : List Row} : ledOf fx (a ++ b) = ledOf fx a ++ ledOf fx b := List.filter_append ..
theorem isLet_pre {a b : List (Option Row)} {cols : List Col} {fx : List (Int × Str)} {sg hk : Bool} (h : isLet (a ++ b) cols fx sg hk = true) : isLet a cols fx sg hk = true := by
  unfold isLet at h ⊢
  split at h
  · cases h
  · rename_i hn
    rw [List.any_append, Bool.or_eq_true, not_or] at hn
    rw [if_neg hn.1]
    rw [List.filterMap_append, ledOf_app] at h
    exact letB_pre h
theorem isLet_some {pre : List Row} {cols : List Col} {fx : List (Int × Str)} {sg hk : Bool} : isLet (pre.map some) cols fx sg hk = letB (ledOf fx pre) (aheadOf hk cols) sg hk := by
  have h1 : (pre.map some).any (·.isNone) = false := by simp
  have h2 : (pre.map some).filterMap id = pre := by simp
  unfold isLet
  rw [h1, h2]; rfl
theorem isLet_none {a b : List (Option Row)} {cols : List Col} {fx : List (Int × Str)} {sg hk : Bool} : isLet (a ++ none :: b) cols fx sg hk = false := by
  unfold isLet
  rw [if_pos (by simp)]
structure At (hk : Bool) (fx : List (Int × Str)) (all : List Col) (sg : Bool) (pre : List Row) (cols : List Col) (b : Option Bool) (o : Bool) : Prop where
  ok : letB (ledOf fx pre) (aheadOf hk all) sg hk = true
  s1 : sg = true → o = true ∧ b = none
  b0 : sg = false → b = if ledOf fx pre = [] then none else some (!turn0 (ledOf fx pre) (aheadOf hk all))
  o0 : sg = false → o = false → aheadOf hk cols = (aheadOf hk all).drop (ledOf fx pre).length ∧ ((ledOf fx pre).length < (aheadOf hk all).length ∨ aheadOf hk all = [] ∧ ledOf fx pre = []) ∧ (cols = [] ∨ ∃ c ∈ cols, isRow c.p hk = true)
  o1 : sg = false → o = true → aheadOf hk all ≠ [] ∧ (aheadOf hk all).length ≤ (ledOf fx pre).length
theorem ahead_nil {hk : Bool} {cols : List Col} : aheadOf hk cols = [] ↔ cols = [] := by
  cases cols with
  | nil => simp [aheadOf]
  | cons c cs => unfold aheadOf; split <;> simp
theorem letB_snoc_long {led : List Row} {r : Row} {ah : List Col} {hk : Bool} (h : letB led ah false hk = true) (h0 : ah ≠ []) (hl : ah.length ≤ led.length) : letB (led ++ [r]) ah false hk = true := by
  cases ah with
  | nil => exact absurd rfl h0
  | cons c cs =>
    cases led with
    | nil => simp at hl
    | cons x xs =>
      simp only [letB, Bool.false_or, List.cons_append, List.isEmpty_cons, Bool.false_eq_true, if_false] at h ⊢
      have e := okAll_snoc (hk := hk) (t₀ := turn0 (x :: xs) (c :: cs)) (r := r) (led := x :: xs) (ah := c :: cs)
      rw [List.cons_append] at e
      show okAll hk (turn0 (x :: xs) (c :: cs)) _ _ = true
      rw [e, h, List.getElem?_eq_none hl]
      rfl
theorem letB_snoc {led : List Row} {r : Row} {ah : List Col} {c : Col} {hk : Bool} (h : letB led ah false hk = true) (hc : ah[led.length]? = some c) :
    letB (led ++ [r]) ah false hk = (sameB c r.p r.c hk && ((r.d == c.d) == (if led = [] then (r.d == c.d) else turn0 led ah))) := by
  cases ah with
  | nil => simp at hc
  | cons c0 cs =>
    cases led with
    | nil =>
      simp at hc
      subst hc
      simp [letB, okAll, turn0, ok_same]
    | cons x xs =>
      simp only [letB, Bool.false_or, List.cons_append, List.isEmpty_cons, Bool.false_eq_true, if_false] at h ⊢
      have e := okAll_snoc (hk := hk) (t₀ := turn0 (x :: xs) (c0 :: cs)) (r := r) (led := x :: xs) (ah := c0 :: cs)
      rw [List.cons_append] at e
      show okAll hk (turn0 (x :: xs) (c0 :: cs)) _ _ = _
      rw [e, h, hc]
      show (true && okB _ _ _ _) = _
      rw [ok_same]
      simp
theorem turn_snoc {led : List Row} {r : Row} {ah : List Col} (h : led ≠ []) : turn0 (led ++ [r]) ah = turn0 led ah := by
  cases led with
  | nil => exact absurd rfl h
  | cons x xs => cases ah <;> rfl
noncomputable def LvEnd (hk : Bool) (fx : List (Int × Str)) (all : List Col) (rs : List Row) (bo : Option Bool × Bool) : Prop :=
  bo.1 = (if ledOf fx rs = [] then none else some (!turn0 (ledOf fx rs) (aheadOf hk all))) ∧ bo.2 = (!(aheadOf hk all).isEmpty && decide ((aheadOf hk all).length ≤ (ledOf fx rs).length)) ∧ (ledOf fx rs ≠ [] → aheadOf hk all ≠ [])
noncomputable def LvSays (num : Int) (hk sg : Bool) (fx : List (Int × Str)) (all : List Col) (ts : List Tm) (pre : List Row) (w : Nat × Option Bool × Bool) : Prop :=
  ∃ (tk : List Row), (ts.map (rowOf num)).take w.1 = tk.map some ∧ isLet ((pre ++ tk).map some) all fx sg hk = true ∧
    (∀ size, w.1 < size → size ≤ ts.length → isLet (pre.map some ++ (ts.map (rowOf num)).take size) all fx sg hk = false) ∧
    (sg = true → w.2 = (none, true)) ∧ (sg = false → LvEnd hk fx all (pre ++ tk) w.2)
section
variable {num : Int} {hk sg : Bool} {fx : List (Int × Str)} {all : List Col} {pre : List Row} {cols : List Col} {b : Option Bool} {o : Bool} {t : Tm} {ts : List Tm} {r : Row}
theorem at_end (H : At hk fx all sg pre cols b o) (hs : sg = false) : LvEnd hk fx all pre (b, o) := by
  cases o with
  | true =>
    obtain ⟨h1, h2⟩ := H.o1 hs rfl
    refine ⟨H.b0 hs, ?_, fun _ => h1⟩
    rw [decide_eq_true h2, Bool.and_true]
    cases hq : aheadOf hk all with
    | nil => exact absurd hq h1
    | cons _ _ => rfl
  | false =>
    obtain ⟨h1, h2, h3⟩ := H.o0 hs rfl
    refine ⟨H.b0 hs, ?_, fun hne => ?_⟩
    · rcases h2 with h2 | h2
      · rw [decide_eq_false (Nat.not_le_of_lt h2), Bool.and_false]
      · rw [h2.1]; rfl
    · rcases h2 with h2 | h2
      · intro e; rw [e] at h2; exact Nat.not_lt_zero _ h2
      · exact absurd h2.2 hne
theorem isLet_more {a c : List (Option Row)} {x : Option Row} (h : isLet (a ++ [x]) all fx sg hk = false) : isLet (a ++ x :: c) all fx sg hk = false := by
  cases hq : isLet (a ++ x :: c) all fx sg hk with
  | false => rfl
  | true =>
    rw [List.append_cons] at hq
    exact (isLet_pre hq).symm.trans h
theorem lv_stop (H : At hk fx all sg pre cols b o) (hs : ∀ t ts', ts = t :: ts' → isLet (pre.map some ++ [rowOf num t]) all fx sg hk = false) : LvSays num hk sg fx all ts pre (0, b, o) := by
  refine ⟨[], rfl, ?_, ?_, ?_, ?_⟩
  · rw [List.append_nil, isLet_some]; exact H.ok
  · intro size h1 h2
    cases ts with
    | nil => exact absurd (Nat.lt_of_lt_of_le h1 h2) (Nat.lt_irrefl _)
    | cons t ts' =>
      cases size with
      | zero => exact absurd h1 (Nat.lt_irrefl _)
      | succ k => exact isLet_more (hs t ts' rfl)
  · intro hs1
    obtain ⟨h1, h2⟩ := H.s1 hs1
    rw [h1, h2]
  · intro hs0
    rw [List.append_nil]
    exact at_end H hs0
theorem lv_take {w : Nat × Option Bool × Bool} (hr : rowOf num t = some r) (h : LvSays num hk sg fx all ts (pre ++ [r]) w) : LvSays num hk sg fx all (t :: ts) pre (w.1 + 1, w.2) := by
  obtain ⟨tk, h1, h2, h3, h4, h5⟩ := h
  rw [List.append_assoc] at h2 h5
  refine ⟨r :: tk, ?_, h2, ?_, h4, h5⟩
  · show rowOf num t :: _ = some r :: _
    rw [hr, ← h1]
  · intro size q1 q2
    cases size with
    | zero => exact absurd q1 (Nat.not_lt_zero _)
    | succ k =>
      have q := h3 k (Nat.lt_of_succ_lt_succ q1) (Nat.le_of_succ_le_succ q2)
      rw [List.map_append, List.append_assoc] at q
      show isLet (pre.map some ++ rowOf num t :: _) all fx sg hk = false
      rw [hr]
      exact q
theorem led_in (hf : (r.p, r.c) ∈ fx) : ledOf fx (pre ++ [r]) = ledOf fx pre := by rw [ledOf_snoc, if_pos hf]
theorem led_out (hf : (r.p, r.c) ∉ fx) : ledOf fx (pre ++ [r]) = ledOf fx pre ++ [r] := by rw [ledOf_snoc, if_neg hf]
theorem at_fix (H : At hk fx all sg pre cols b o) (hf : (r.p, r.c) ∈ fx) : At hk fx all sg (pre ++ [r]) cols b o := by
  have el := led_in (pre := pre) hf
  exact ⟨by rw [el]; exact H.ok, H.s1, by rw [el]; exact H.b0, by rw [el]; exact H.o0, by rw [el]; exact H.o1⟩
theorem at_on (H : At hk fx all sg pre cols b true) (hf : (r.p, r.c) ∉ fx) : At hk fx all sg (pre ++ [r]) cols b true := by
  have el := led_out (pre := pre) hf
  cases sg with
  | true => exact ⟨by unfold letB; rw [Bool.true_or, if_pos rfl], H.s1, (fun h => nomatch h), (fun h => nomatch h), (fun h => nomatch h)⟩
  | false =>
    obtain ⟨a1, a2⟩ := H.o1 rfl rfl
    have hne : ledOf fx pre ≠ [] := by
      intro e; rw [e] at a2; exact a1 (List.length_eq_zero_iff.mp (Nat.le_zero.mp a2))
    refine ⟨by rw [el]; exact letB_snoc_long H.ok a1 a2, (fun h => nomatch h), fun _ => ?_, (fun _ h => nomatch h), fun _ _ => ⟨a1, by rw [el, List.length_append]; exact Nat.le_succ_of_le a2⟩⟩
    rw [el, turn_snoc hne, if_neg (fun h => List.cons_ne_nil _ _ (List.append_eq_nil_iff.mp h).2)]
    have := H.b0 rfl
    rw [if_neg hne] at this
    exact this
theorem let_out (hf : (r.p, r.c) ∉ fx) (hr : rowOf num t = some r) (h : letB (ledOf fx pre ++ [r]) (aheadOf hk all) sg hk = false) : isLet (pre.map some ++ [rowOf num t]) all fx sg hk = false := by
  rw [hr]
  have q : isLet ((pre ++ [r]).map some) all fx sg hk = false := by rw [isLet_some, led_out hf]; exact h
  rw [List.map_append] at q
  exact q
theorem no_nil (H : At hk fx all false pre [] b false) : letB (ledOf fx pre ++ [r]) (aheadOf hk all) false hk = false := by
  obtain ⟨a1, a2, a3⟩ := H.o0 rfl rfl
  have a4 : aheadOf hk all = [] := by
    rcases a2 with a2 | a2
    · have q := congrArg List.length a1
      rw [List.length_drop] at q
      exact absurd (Nat.sub_pos_of_lt a2) (by rw [← q]; exact Nat.lt_irrefl 0)
    · exact a2.1
  rw [a4]
  cases ledOf fx pre <;> rfl
theorem at_next {c : Col} {cs : List Col} (H : At hk fx all false pre (c :: cs) b false) : (aheadOf hk all)[(ledOf fx pre).length]? = some c := by
  have q := congrArg (·[0]?) (H.o0 rfl rfl).1
  simp only [List.getElem?_drop, Nat.add_zero] at q
  rw [← q]
  unfold aheadOf
  split <;> rfl
theorem no_col {c : Col} {cs : List Col} (H : At hk fx all false pre (c :: cs) b false) (hs : sameB c r.p r.c hk = false) : letB (ledOf fx pre ++ [r]) (aheadOf hk all) false hk = false := by
  rw [letB_snoc H.ok (at_next H), hs]; rfl
theorem no_way {c : Col} {cs : List Col} (H : At hk fx all false pre (c :: cs) b false) (hb : b = some (!(r.d != c.d))) : letB (ledOf fx pre ++ [r]) (aheadOf hk all) false hk = false := by
  rw [letB_snoc H.ok (at_next H)]
  have q := H.b0 rfl
  rw [hb] at q
  by_cases hle : ledOf fx pre = []
  · rw [if_pos hle] at q; cases q
  · rw [if_neg hle] at q ⊢
    have q2 := Option.some.inj q
    revert q2
    cases sameB c r.p r.c hk <;> cases turn0 (ledOf fx pre) (aheadOf hk all) <;> cases r.d <;> cases c.d <;> first | exact fun _ => rfl | exact fun h => nomatch h
theorem at_col {c : Col} {cs : List Col} (H : At hk fx all false pre (c :: cs) b false) (hf : (r.p, r.c) ∉ fx) (hs : sameB c r.p r.c hk = true) (hb : b ≠ some (!(r.d != c.d))) : At hk fx all false (pre ++ [r]) cs (some (r.d != c.d)) (isRow c.p hk) := by
  have el := led_out (pre := pre) hf
  have hc := at_next H
  obtain ⟨a1, a2, a3⟩ := H.o0 rfl rfl
  have hb0 := H.b0 rfl
  have hnn : ledOf fx pre ++ [r] ≠ [] := fun h => List.cons_ne_nil _ _ (List.append_eq_nil_iff.mp h).2
  have ht : turn0 (ledOf fx pre ++ [r]) (aheadOf hk all) = (r.d == c.d) := by
    by_cases hle : ledOf fx pre = []
    · rw [hle] at hc ⊢
      cases haq : aheadOf hk all with
      | nil => rw [haq] at hc; cases hc
      | cons c0 cs0 => rw [haq] at hc; cases hc; rfl
    · rw [turn_snoc hle]
      rw [if_neg hle] at hb0
      rw [hb0] at hb
      have q : ¬ (!turn0 (ledOf fx pre) (aheadOf hk all)) = (!(r.d != c.d)) := fun q => hb (congrArg some q)
      revert q
      cases turn0 (ledOf fx pre) (aheadOf hk all) <;> cases r.d <;> cases c.d <;> first | exact fun _ => rfl | exact fun h => absurd rfl h
  refine ⟨?_, (fun h => nomatch h), fun _ => ?_, fun _ ho => ?_, fun _ ho => ?_⟩
  · rw [el, letB_snoc H.ok hc, hs, Bool.true_and]
    by_cases hle : ledOf fx pre = []
    · rw [if_pos hle]; exact beq_self_eq_true _
    · rw [if_neg hle, ← turn_snoc hle (r := r), ht]; exact beq_self_eq_true _
  · rw [el, ht, if_neg hnn]
    cases r.d <;> cases c.d <;> rfl
  · have e1 : aheadOf hk (c :: cs) = c :: aheadOf hk cs := by unfold aheadOf; rw [if_neg (by rw [ho]; exact Bool.false_ne_true)]; cases cs <;> rfl
    have hcs : ∃ c' ∈ cs, isRow c'.p hk = true := by
      rcases a3 with a3 | ⟨c', hm, hc'⟩
      · cases a3
      · rcases List.mem_cons.mp hm with rfl | hm
        · rw [ho] at hc'; cases hc'
        · exact ⟨c', hm, hc'⟩
    rw [e1] at a1
    have e2 : aheadOf hk cs = (aheadOf hk all).drop ((ledOf fx pre).length + 1) := by
      have q := congrArg List.tail a1
      rw [List.tail_cons, List.tail_drop] at q
      exact q
    refine ⟨by rw [el, List.length_append]; exact e2, .inl ?_, .inr hcs⟩
    rw [el, List.length_append]
    have hne : aheadOf hk cs ≠ [] := by
      obtain ⟨c', hm, _⟩ := hcs
      intro q
      rw [ahead_nil.mp q] at hm; cases hm
    have q1 := congrArg List.length e2
    rw [List.length_drop] at q1
    have q2 := List.length_pos_iff.mpr hne
    rw [q1] at q2
    exact Nat.lt_of_sub_pos q2
  · have e1 : aheadOf hk (c :: cs) = [c] := by unfold aheadOf; rw [if_pos ho]
    rw [e1] at a1
    have q := congrArg List.length a1
    rw [List.length_drop] at q
    refine ⟨fun h => by rw [h, List.length_nil, Nat.zero_sub] at q; exact Nat.one_ne_zero q, ?_⟩
    rw [el, List.length_append, List.length_singleton]
    exact Nat.sub_le_iff_le_add'.mp (Nat.le_of_eq q.symm)
end
theorem lvl_cons (num : Int) (hk : Bool) (fx : List (Int × Str)) (t : Tm) (ts : List Tm) (cols : List Col) (b : Option Bool) (o : Bool) : lvl num hk fx (t :: ts) cols b o = match t.e with
    | none => (0, b, o)
    | some (nm, pl, cc) =>
      if nm ≠ num then (0, b, o)
      else if o = true ∨ (pl, cc) ∈ fx then ((lvl num hk fx ts cols b o).1 + 1, (lvl num hk fx ts cols b o).2)
      else match cols with
        | [] => (0, b, o)
        | c :: cs => if sameB c pl cc hk = false then (0, b, o)
          else if b = some (!(t.f != c.d)) then (0, b, o)
          else ((lvl num hk fx ts cs (some (t.f != c.d)) (isRow c.p hk)).1 + 1, (lvl num hk fx ts cs (some (t.f != c.d)) (isRow c.p hk)).2) := rfl
theorem lvl_main {num : Int} {hk sg : Bool} {fx : List (Int × Str)} {all : List Col} : ∀ (ts : List Tm) (pre : List Row) (cols : List Col) (b : Option Bool) (o : Bool), At hk fx all sg pre cols b o →
    LvSays num hk sg fx all ts pre (lvl num hk fx ts cols b o) := by
  intro ts
  induction ts with
  | nil => exact fun pre cols b o H => lv_stop H (fun _ _ h => nomatch h)
  | cons t ts ih =>
    intro pre cols b o H
    rw [lvl_cons]
    cases he : t.e with
    | none =>
      have hr : rowOf num t = none := by unfold rowOf; rw [he]
      refine lv_stop H fun t' ts' h => ?_
      cases h
      rw [hr]; exact isLet_none (b := [])
    | some w =>
      obtain ⟨nm, pl, cc⟩ := w
      by_cases hn : nm = num
      case neg =>
        have hr : rowOf num t = none := by unfold rowOf; rw [he]; exact if_neg hn
        dsimp only
        rw [if_pos hn]
        refine lv_stop H fun t' ts' h => ?_
        cases h
        rw [hr]; exact isLet_none (b := [])
      case pos =>
        have hr : rowOf num t = some ⟨pl, cc, t.f⟩ := by unfold rowOf; rw [he]; exact if_pos hn
        clear he
        dsimp only
        rw [if_neg (fun h => h hn)]
        by_cases h1 : o = true ∨ (pl, cc) ∈ fx
        case pos =>
          rw [if_pos h1]
          refine lv_take hr (ih _ _ _ _ ?_)
          by_cases hf : (pl, cc) ∈ fx
          · exact at_fix H hf
          · have ho : o = true := h1.resolve_right hf
            subst ho
            exact at_on H hf
        case neg =>
          rw [if_neg h1]
          have ho : o = false := by cases o with | true => exact absurd (.inl rfl) h1 | false => rfl
          have hf : (pl, cc) ∉ fx := fun h => h1 (.inr h)
          clear h1
          subst ho
          have hsg : sg = false := by cases hs : sg with | false => rfl | true => exact absurd (H.s1 hs).1 Bool.false_ne_true
          subst hsg
          have st : ∀ cols, At hk fx all false pre cols b false → letB (ledOf fx pre ++ [⟨pl, cc, t.f⟩]) (aheadOf hk all) false hk = false → LvSays num hk false fx all (t :: ts) pre (0, b, false) := by
            intro cols H h
            refine lv_stop H fun t' ts' e => ?_
            cases e
            exact let_out hf hr h
          cases cols with
          | nil => exact st _ H (no_nil H)
          | cons c cs =>
            dsimp only
            by_cases hs : sameB c pl cc hk = false
            · rw [if_pos hs]
              exact st _ H (no_col H hs)
            · rw [if_neg hs]
              by_cases hbb : b = some (!(t.f != c.d))
              · rw [if_pos hbb]
                exact st _ H (no_way H hbb)
              · rw [if_neg hbb]
                exact lv_take hr (ih _ _ _ _ (at_col H hf (by revert hs; cases sameB c pl cc hk with | true => exact fun _ => rfl | false => exact fun h => absurd rfl h) hbb))
-- Lvq
theorem lvl_end1 {num : Int} {hk : Bool} {fx : List (Int × Str)} {x : Addr} {e : Int × Int × Str} {f : Bool} {ts : List Tm} {cols : List Col} {b : Option Bool} {o : Bool} (h : e.1 ≠ num) : lvl num hk fx (⟨x, some e, f⟩ :: ts) cols b o = (0, b, o) := by
  obtain ⟨nm, pl, cc⟩ := e
  unfold lvl; simp only [h, ne_eq, not_false_eq_true, if_true]
theorem lvl_go1 {num : Int} {hk : Bool} {fx : List (Int × Str)} {x : Addr} {pl : Int} {cc : Str} {f : Bool} {ts : List Tm} {cols : List Col} {b : Option Bool} {o : Bool} (h : o = true ∨ (pl, cc) ∈ fx) : lvl num hk fx (⟨x, some (num, pl, cc), f⟩ :: ts) cols b o = ((lvl num hk fx ts cols b o).1 + 1, (lvl num hk fx ts cols b o).2) := by
  conv => lhs; unfold lvl
  simp only [ne_eq, not_true, if_false, h, if_true]
theorem lvl_end2 {num : Int} {hk : Bool} {fx : List (Int × Str)} {x : Addr} {pl : Int} {cc : Str} {f : Bool} {ts : List Tm} {b : Option Bool} (h : (pl, cc) ∉ fx) : lvl num hk fx (⟨x, some (num, pl, cc), f⟩ :: ts) [] b false = (0, b, false) := by
  conv => lhs; unfold lvl
  simp only [ne_eq, not_true, if_false, Bool.false_eq_true, false_or, h]
theorem lvl_end3 {num : Int} {hk : Bool} {fx : List (Int × Str)} {x : Addr} {pl : Int} {cc : Str} {f : Bool} {ts : List Tm} {c : Col} {cs : List Col} {b : Option Bool} (h : (pl, cc) ∉ fx) (hs : sameB c pl cc hk = false) : lvl num hk fx (⟨x, some (num, pl, cc), f⟩ :: ts) (c :: cs) b false = (0, b, false) := by
  conv => lhs; unfold lvl
  simp only [ne_eq, not_true, if_false, Bool.false_eq_true, false_or, h, hs, if_true]
theorem lvl_end4 {num : Int} {hk : Bool} {fx : List (Int × Str)} {x : Addr} {pl : Int} {cc : Str} {f b : Bool} {ts : List Tm} {c : Col} {cs : List Col} (h : (pl, cc) ∉ fx) (hs : sameB c pl cc hk = true) (hb : b ≠ (f != c.d)) : lvl num hk fx (⟨x, some (num, pl, cc), f⟩ :: ts) (c :: cs) (some b) false = (0, some b, false) := by
  have e : b = !(f != c.d) := by revert hb; cases b <;> cases f != c.d <;> simp
  conv => lhs; unfold lvl
  simp only [ne_eq, not_true, if_false, Bool.false_eq_true, Bool.true_eq_false, false_or, h, hs, e, if_true]
theorem lvl_go2 {num : Int} {hk : Bool} {fx : List (Int × Str)} {x : Addr} {pl : Int} {cc : Str} {f : Bool} {b : Option Bool} {ts : List Tm} {c : Col} {cs : List Col} (h : (pl, cc) ∉ fx) (hs : sameB c pl cc hk = true) (hb : b = none ∨ b = some (f != c.d)) :
    lvl num hk fx (⟨x, some (num, pl, cc), f⟩ :: ts) (c :: cs) b false = ((lvl num hk fx ts cs (some (f != c.d)) (isRow c.p hk)).1 + 1, (lvl num hk fx ts cs (some (f != c.d)) (isRow c.p hk)).2) := by
  have e : ¬ (b = some (!(f != c.d))) := by
    rcases hb with rfl | rfl
    · simp
    · cases f != c.d <;> simp
  conv => lhs; unfold lvl
  simp only [ne_eq, not_true, if_false, Bool.false_eq_true, Bool.true_eq_false, false_or, h, hs, e]
theorem drop_tl {α : Type} {x : α} {r l : List α} {i : Nat} (h : x :: r = l.drop i) : r = l.drop (i + 1) := by
  have q := congrArg List.tail h
  rw [List.tail_cons, List.tail_drop] at q
  exact q
theorem ord_no {d : PathD} {hasT : Bool} (h : hasT = false) : ordOf d hasT = [] := by subst h; simp [ordOf]
theorem ord_ok {d : PathD} {hasT : Bool} (hok : ∀ x ∈ d.cols, PyData.strOk x.c = true) : ∀ x ∈ ordOf d hasT, PyData.strOk x.c = true := by
  have h0 : PyData.strOk rowidCol.c = true := by decide +kernel
  intro x hx
  unfold ordOf at hx
  split at hx
  · cases hx
  · split at hx
    · rw [List.mem_singleton.mp hx]; exact h0
    · rw [List.mem_singleton.mp hx]; exact h0
    · cases hx
    · rcases List.mem_append.mp hx with hx | hx
      · exact hok x (List.mem_of_mem_drop hx)
      · rw [List.mem_singleton.mp hx]; exact h0
theorem ord_len {d : PathD} {hasT : Bool} (hc : d.cols.length ≤ 8) : (ordOf d hasT).length ≤ 9 := by
  unfold ordOf
  split
  · simp
  · split
    · simp
    · simp
    · simp
    · rw [List.length_append, List.length_drop]; simp; omega
theorem lvl_0 {r : Nat × Option Bool × Bool} {i : Nat} {b : Option Bool} {o : Bool} {q : Nat × Option Bool × Bool} (h : r = (q.1 + i, q.2)) (e : q = (0, b, o)) : r = (i, b, o) := by rw [h, e]; simp
theorem lvl_s {r q q' : Nat × Option Bool × Bool} {i : Nat} (h : r = (q.1 + i, q.2)) (e : q = (q'.1 + 1, q'.2)) : r = (q'.1 + (i + 1), q'.2) := by rw [h, e]; simp; omega
-- Trd
noncomputable def rowD : Option Row → Dat
  | none => .none
  | some r => colD r
theorem row_inv {nw : List (Addr × Obj)} {v : Value} {r : Row} (h : DatIn nw v (rowD (some r))) : ∃ a n tp tc, v = .ref a ∧ (a, tupO [.int r.p tp, .str r.c tc, .bool r.d] n) ∈ nw := col_inv h
theorem row_mk {nw : List (Addr × Obj)} {a : Addr} {n : Nat} {tp tc : Tok} {r : Row} (hm : (a, tupO [.int r.p tp, .str r.c tc, .bool r.d] n) ∈ nw) : DatIn nw (.ref a) (rowD (some r)) := col_mk hm
noncomputable def srow (t : Tm) : Option Row := rowOf 4 t
noncomputable def TRIs (nw : List (Addr × Obj)) (v : Value) (t : Tm) : Prop := ∃ (r a : Addr) (n : Nat) (rv : Value), v = .ref r ∧ (r, tupO [.ref a, rv] n) ∈ nw ∧ TermIs nw (.ref a) t ∧ DatIn nw rv (rowD (srow t))
noncomputable def TOk (t : Tm) : Prop := ∀ a b c, t.e = some (a, b, c) → PyData.strOk c = true
theorem tr_mk {nx : List (Addr × Obj)} {r a dx x : Addr} {n nn b : Nat} {rv : Value} {es : List DictEntry} {g : Str → Option Value} {e : Option (Int × Int × Str)} {f : Bool} (h1 : (r, tupO [.ref a, rv] n) ∈ nx) (h2 : (a, instObj 526 dx) ∈ nx) (h3 : (dx, dictOf es nn) ∈ nx) (h4 : Flds es g b)
    (g1 : g (Str.ofString "value") = some (.ref x)) (g2 : g (Str.ofString "descending") = some (.bool f)) (he : ExprIs nx x e) (hr : DatIn nx rv (rowD (srow ⟨x, e, f⟩))) : TRIs nx (.ref r) ⟨x, e, f⟩ :=
  ⟨r, a, n, rv, rfl, h1, ⟨a, g, rfl, ins_mk h2 h3 h4, g1, g2, he⟩, hr⟩
theorem coll_ok {cols : List (Str × Str × Str)} {pl : Int} {P : Str → Prop} (h0 : P binary) (h : ∀ x ∈ cols, P x.2.2) : P (collAt cols pl) := by
  unfold collAt
  split
  · exact h0
  · split
    · rename_i x hx; exact h x (List.mem_of_getElem? hx)
    · exact h0
theorem get2 {x y v : Value} {i : Nat} (h : [x, y][i]? = some v) : v = x ∨ v = y := by
  match i, h with
  | 0, h => exact .inl (Option.some.inj h).symm
  | 1, h => exact .inr (Option.some.inj h).symm
theorem get4 {x v : Value} {a b : Str} {ta tb : Tok} {i : Nat} (h : [x, x, Value.str a ta, Value.str b tb][i]? = some v) : v = x ∨ ∃ w t, v = .str w t ∧ (w = a ∨ w = b) := by
  match i, h with
  | 0, h => exact .inl (Option.some.inj h).symm
  | 1, h => exact .inl (Option.some.inj h).symm
  | 2, h => exact .inr ⟨a, ta, (Option.some.inj h).symm, .inl rfl⟩
  | 3, h => exact .inr ⟨b, tb, (Option.some.inj h).symm, .inr rfl⟩
theorem row_mk2 {nw : List (Addr × Obj)} {a : Addr} {n : Nat} {tp tc : Tok} {r : Row} {c : Str} (e : r.c = c) (hm : (a, tupO [.int r.p tp, .str c tc, .bool r.d] n) ∈ nw) : DatIn nw (.ref a) (rowD (some r)) := by
  subst e; exact row_mk hm
theorem srow4 {x : Addr} {pl : Int} {c : Str} {f : Bool} : srow ⟨x, some (4, pl, c), f⟩ = some ⟨pl, c, f⟩ := by simp [srow, rowOf]
theorem srow7 {x : Addr} {pl : Int} {c : Str} {f : Bool} : srow ⟨x, some (7, pl, c), f⟩ = none := by simp [srow, rowOf]
theorem cols_item {nw : List (Addr × Obj)} {svs : List Value} {scols : List (Str × Str × Str)} {pl : Int} (hD : DatAll nw svs (scols.map colS)) (h0 : 0 ≤ pl) (h1 : pl < scols.length) :
    ∃ (x : Str × Str × Str) (a : Addr) (n : Nat) (t1 t2 t3 : Tok), svs[pl.toNat]? = some (.ref a) ∧ (a, tupO [.str x.1 t1, .str x.2.1 t2, .str x.2.2 t3] n) ∈ nw ∧ collAt scols pl = x.2.2 := by
  obtain ⟨x, hx⟩ : ∃ x, scols[pl.toNat]? = some x := ⟨_, List.getElem?_eq_getElem (by omega)⟩
  obtain ⟨v, hv⟩ : ∃ v, svs[pl.toNat]? = some v := ⟨_, List.getElem?_eq_getElem (by have := DatAll.length hD; rw [List.length_map] at this; omega)⟩
  obtain ⟨d, hd, hDd⟩ := datAll_at hD hv
  rw [List.getElem?_map, hx] at hd
  obtain rfl := Option.some.inj hd
  obtain ⟨a, n, t1, t2, t3, rfl, hm⟩ := colS_inv hDd
  exact ⟨x, a, n, t1, t2, t3, hv, hm, by unfold collAt; rw [if_neg (by omega)]; simp only [hx]⟩
theorem coll_neg {scols : List (Str × Str × Str)} {pl : Int} (h : pl < 0) : collAt scols pl = Str.ofString "binary" := by unfold collAt; rw [if_pos h]; rfl
theorem coll_szs {scols : List (Str × Str × Str)} {pl : Int} (h : ∀ x ∈ scols, x.2.2.cps.size ≠ 0 ∧ x.2.2.cps.size ≤ 64 ∧ PyData.strOk x.2.2 = true) : (collAt scols pl).cps.size ≠ 0 ∧ (collAt scols pl).cps.size ≤ 64 ∧ PyData.strOk (collAt scols pl) = true :=
  coll_ok (P := fun c => c.cps.size ≠ 0 ∧ c.cps.size ≤ 64 ∧ PyData.strOk c = true) ⟨by decide +kernel, by decide +kernel, by decide +kernel⟩ h
theorem tok_of {x : Addr} {p : Int × Int × Str} {f : Bool} (h : PyData.strOk p.2.2 = true) : TOk ⟨x, some p, f⟩ := by
  intro a b c e
  obtain rfl := Option.some.inj e
  exact h
theorem coll_szs4 {scols : List (Str × Str × Str)} {d : Int} (_q : d < 4) (h : ∀ x ∈ scols, x.2.2.cps.size ≠ 0 ∧ x.2.2.cps.size ≤ 64 ∧ PyData.strOk x.2.2 = true) : (collAt scols (d - 1)).cps.size ≠ 0 ∧ (collAt scols (d - 1)).cps.size ≤ 64 ∧ PyData.strOk (collAt scols (d - 1)) = true := coll_szs h
theorem cols_item4 {nw : List (Addr × Obj)} {svs : List Value} {scols : List (Str × Str × Str)} {d : Int} (q : d < 4) (hD : DatAll nw svs (scols.map colS)) (hl : scols.length = 3) (h0 : 0 ≤ d - 1) :
    ∃ (x : Str × Str × Str) (a : Addr) (n : Nat) (t1 t2 t3 : Tok), svs[(d - 1).toNat]? = some (.ref a) ∧ (a, tupO [.str x.1 t1, .str x.2.1 t2, .str x.2.2 t3] n) ∈ nw ∧ collAt scols (d - 1) = x.2.2 := cols_item hD h0 (by omega)
theorem exI {nw : List (Addr × Obj)} {x : Addr} {num pl : Int} {c : Str} (h1 : c.cps.size ≠ 0) (h2 : c.cps.size ≤ 64) (h : NameIs nw x num pl c) : ExprIs nw x (some (num, pl, c)) := ⟨h1, h2, .inl h⟩
theorem exC {nw : List (Addr × Obj)} {x y dx : Addr} {es : List DictEntry} {n b : Nat} {num pl : Int} {w c0 : Str} {t : Tok} {f : Str → Option Value} (h : NameIs nw y num pl c0) (i1 : (x, instObj 448 dx) ∈ nw) (i2 : (dx, dictOf es n) ∈ nw) (i3 : Flds es f b) (g1 : f (Str.ofString "collation") = some (.str w t)) (g2 : f (Str.ofString "value") = some (.ref y)) (h1 : (foldS w).cps.size ≠ 0) (h2 : (foldS w).cps.size ≤ 64) (h3 : w.cps.size ≤ 64) : ExprIs nw x (some (num, pl, foldS w)) :=
  ⟨h1, h2, .inr ⟨f, y, w, t, c0, ins_mk i1 i2 i3, g1, g2, h, rfl, h3⟩⟩
noncomputable def TPl (t : Tm) : Prop := ∀ a b c, t.e = some (a, b, c) → -1 ≤ b
theorem tpl_of {x : Addr} {n pl : Int} {c : Str} {f : Bool} (h : -1 ≤ pl) : TPl ⟨x, some (n, pl, c), f⟩ := by
  intro a b c e
  obtain ⟨rfl, rfl, rfl⟩ := by simpa using e
  exact h
theorem tpl_none {x : Addr} {f : Bool} : TPl ⟨x, none, f⟩ := fun a b c h => nomatch h
-- Lpa
noncomputable def LPIs (nw : List (Addr × Obj)) (pt : Addr) (d : PathD) : Prop :=
  ∃ (x cl fl : Addr) (cvs fvs : List Value) (ck fk n : Nat), (pt, tupO [.ref x, .ref cl, .ref fl, .bool d.single] n) ∈ nw ∧ PathIs nw x d ∧ (cl, listOf cvs.toArray ck) ∈ nw ∧ DatAll nw cvs ((ordOf d true).map colD) ∧ (fl, listOf fvs.toArray fk) ∈ nw ∧ DatAll nw fvs ((fixOf d).map fixD)
theorem pathIs_mk {nw : List (Addr × Obj)} {x dx eq ea l : Addr} {f : Str → Option Value} {es : List DictEntry} {n b : Nat} {iv : Value} {evs : List Value} {evk : Nat} {d : PathD} (h1 : (x, instObj 764 dx) ∈ nw) (h2 : (dx, dictOf es n) ∈ nw) (h3 : Flds es f b) (pf : PathF f d.kind.word iv eq ea (if d.hasList = true then .ref l else .none) d.single)
    (he : (eq, listOf evs.toArray evk) ∈ nw) (hl : evs.length = d.eqn) (hix : d.kind = .index → ∃ (ix : Addr) (fi : Str → Option Value) (cl : Addr) (cvs : List Value) (ck : Nat), iv = .ref ix ∧ Ins nw ix 950 fi ∧ fi (Str.ofString "columns") = some (.ref cl) ∧ (cl, listOf cvs.toArray ck) ∈ nw ∧ DatAll nw cvs (d.cols.map colD)) : PathIs nw x d := by
  obtain ⟨⟨t, p1⟩, p2, p3, p4, p5, p6, p7, p8, p9⟩ := pf
  by_cases h : d.kind = .index
  · obtain ⟨ix, fi, cl, cvs, ck, rfl, q1, q2, q3, q4⟩ := hix h
    exact ⟨f, t, l, eq, evs, evk, ix, fi, cl, cvs, ck, ins_mk h1 h2 h3, p1, p7, p8, p3, he, hl, fun _ => ⟨p2, q1, q2, q3, q4⟩⟩
  · exact ⟨f, t, l, eq, evs, evk, 0, f, 0, [], 0, ins_mk h1 h2 h3, p1, p7, p8, p3, he, hl, fun q => absurd q h⟩
noncomputable def PGood (d : PathD) (cols : List Col) : Prop := d.eqn ≤ d.cols.length ∧ d.cols.length ≤ 8 ∧ (d.kind = .index → d.cols = cols)
theorem lp_bb {l : List (Addr × Obj)} {a x y z : Addr} {n : Nat} {b b' : Bool} (hm : (a, tupO [.ref x, .ref y, .ref z, .bool b] n) ∈ l) (h : b = b') : (a, tupO [.ref x, .ref y, .ref z, .bool b'] n) ∈ l := h ▸ hm
theorem lp_sg1 {a c d : Int} {n : Nat} {x : Bool} (h : (x && decide (d < (n : Int))) = true) : ((a == c && d == (n : Int)) : Bool) = ((a == c && d == (n : Int)) && !true) := by
  have h2 : d < (n : Int) := of_decide_eq_true (Bool.and_eq_true_iff.mp h).2
  have e : (d == (n : Int)) = false := by simp; omega
  rw [e]; simp
theorem lp_sg0 {b : Bool} : b = (b && !false) := by simp
-- Fxa
theorem cols_repl {a b : List (Addr × Obj)} (hs : ∀ p ∈ a, p.2.cls = .type "tuple" → p ∈ b) : ∀ {cols : List Col} {vs : List Value}, DatAll a vs (cols.map colD) → DatAll b vs (cols.map colD) := by
  intro cols
  induction cols with
  | nil => intro vs h; cases h; exact .nil
  | cons c r ih =>
    intro vs h
    cases h with
    | cons h1 h2 =>
      obtain ⟨x, n, tp, tc, rfl, hm⟩ := col_inv h1
      exact .cons (col_mk (hs _ hm rfl)) (ih h2)
theorem fixs_repl {a b : List (Addr × Obj)} (hs : ∀ p ∈ a, p.2.cls = .type "tuple" → p ∈ b) : ∀ {fx : List (Int × Str)} {vs : List Value}, DatAll a vs (fx.map fixD) → DatAll b vs (fx.map fixD) := by
  intro fx
  induction fx with
  | nil => intro vs h; cases h; exact .nil
  | cons c r ih =>
    intro vs h
    cases h with
    | cons h1 h2 =>
      obtain ⟨x, n, tp, tc, rfl, hm⟩ := fix_inv h1
      exact .cons (fix_mk (hs _ hm rfl)) (ih h2)
-- Ahd
theorem ahead_at {hk : Bool} : ∀ {cols : List Col} {k : Nat} {c : Col}, cols[k]? = some c → isRow c.p hk = true → (∀ x ∈ cols.take k, isRow x.p hk = false) → aheadOf hk cols = cols.take (k + 1) := by
  intro cols
  induction cols with
  | nil => intro k c h; simp at h
  | cons x xs ih =>
    intro k c h hc hn
    cases k with
    | zero =>
      simp at h
      subst h
      unfold aheadOf; rw [if_pos hc]; rfl
    | succ j =>
      have hx : isRow x.p hk = false := hn x (by simp)
      unfold aheadOf
      rw [if_neg (by rw [hx]; exact Bool.false_ne_true), List.take_succ_cons, ih (by simpa using h) hc fun y hy => hn y (by rw [List.take_succ_cons]; exact .tail _ hy)]
theorem ahead_all {hk : Bool} : ∀ {cols : List Col}, (∀ x ∈ cols, isRow x.p hk = false) → aheadOf hk cols = cols := by
  intro cols
  induction cols with
  | nil => intro _; rfl
  | cons x xs ih =>
    intro h
    unfold aheadOf
    rw [if_neg (by rw [h x (.head _)]; exact Bool.false_ne_true), ih fun y hy => h y (.tail _ hy)]
noncomputable def MkJ (hk : Bool) (cols : List Col) (i : Nat) (ys : List Value) : Prop :=
  (ys = [] ∧ ∀ x ∈ cols.take i, isRow x.p hk = false) ∨ ∃ (k : Nat) (t : Tok) (r : List Value) (c : Col), ys = .int (k : Int) t :: r ∧ cols[k]? = some c ∧ isRow c.p hk = true ∧ ∀ x ∈ cols.take k, isRow x.p hk = false
theorem mkj_no {hk : Bool} {cols : List Col} {i : Nat} {ys : List Value} {c : Col} (h : MkJ hk cols i ys) (hc : cols[i]? = some c) (hn : isRow c.p hk = false) : MkJ hk cols (i + 1) ys := by
  rcases h with ⟨h1, h2⟩ | h
  · refine .inl ⟨h1, fun x hx => ?_⟩
    rw [take_at hc] at hx
    rcases List.mem_append.mp hx with hx | hx
    · exact h2 x hx
    · rw [List.mem_singleton.mp hx]; exact hn
  · exact .inr h
theorem mkj_yes {hk : Bool} {cols : List Col} {i : Nat} {ys : List Value} {c : Col} {t : Tok} (h : MkJ hk cols i ys) (hc : cols[i]? = some c) (hn : isRow c.p hk = true) : MkJ hk cols (i + 1) (ys ++ [.int (0 + (i : Int)) t]) := by
  rw [Int.zero_add]
  rcases h with ⟨rfl, h2⟩ | ⟨k, t', r, c', rfl, h1, h2, h3⟩
  · exact .inr ⟨i, t, [], c, rfl, hc, hn, h2⟩
  · exact .inr ⟨k, t', r ++ [.int (i : Int) t], c', rfl, h1, h2, h3⟩
-- Eqv
section
variable {prog : Program} {w : World} {A : Around} {E : Value → Shared → Prop} {s : Shared} {h₀ : Heap} {L l D : Addr} {news n1 : List (Addr × Obj)} {rvs : List Value} {k k2 : Nat}
noncomputable def isNoneV : Value → Bool
  | .none => true
  | _ => false
theorem any_none : ∀ {rvs : List Value} {rows : List (Option Row)}, DatAll n1 rvs (rows.map rowD) → rvs.any isNoneV = rows.any (·.isNone) := by
  intro rvs
  induction rvs with
  | nil => intro rows h; cases rows with | nil => rfl | cons r t => cases h
  | cons v t ih =>
    intro rows h
    cases rows with
    | nil => cases h
    | cons r q =>
      cases h with
      | cons h1 h2 =>
        rw [List.any_cons, List.any_cons, ih h2]
        congr 1
        cases r with
        | none => cases h1; rfl
        | some r => obtain ⟨a, n, tp, tc, rfl, hm⟩ := row_inv h1; rfl
theorem datAll_mem {ds : List Dat} : ∀ {vs : List Value}, DatAll n1 vs ds → ∀ v ∈ vs, ∃ d ∈ ds, DatIn n1 v d := by
  induction ds with
  | nil => intro vs h v hv; cases h; cases hv
  | cons d t ih =>
    intro vs h v hv
    cases h with
    | cons h1 h2 =>
      rcases List.mem_cons.mp hv with rfl | hv
      · exact ⟨d, .head _, h1⟩
      · obtain ⟨e, he, h⟩ := ih h2 v hv
        exact ⟨e, .tail _ he, h⟩
theorem nin_c {rows : List (Option Row)} {Q : Value → Shared → Prop} (N : News h₀ L s.heap news) (hm : (l, listOf rvs.toArray k) ∈ news) (hR : DatAll n1 rvs (rows.map rowD)) (hs : ∀ p ∈ n1, p ∈ news) (hu : A.units + 8 < cLine) (h : Q (.bool (rows.any (·.isNone))) s) :
    wpAny (model prog w) A (compareOp .In .none (.ref l)) Q E s := by
  refine SeqAt.in_listAt isNoneV (PySem.IsL.isList (n := k) (N _ hm).1) (fun y hy => ?_) (by simpa [any_none hR] using h)
  obtain ⟨d, hd, hD⟩ := datAll_mem hR y (by simpa using hy)
  obtain ⟨r, _, rfl⟩ := List.mem_map.mp hd
  cases r with
  | none => cases hD; exact SeqAt.EqAt.same _
  | some r =>
    obtain ⟨a, n, tp, tc, rfl, ha⟩ := row_inv hD
    exact SeqAt.EqAt.tuple_none ⟨_, (N _ (hs _ ha)).1, rfl, n, rfl⟩ (by show A.units + 1 < cLine; omega)
theorem ne_pair {Q : Value → Shared → Prop} {a b : Addr} {na nb : Nat} {p q : Int} {c e : Str} {t1 t2 t3 t4 : Tok} (N : News h₀ L s.heap news) (h1 : (a, tupO [.int p t1, .str c t2] na) ∈ news) (h2 : (b, tupO [.int q t3, .str e t4] nb) ∈ news) (hu : A.units + 8 < cLine)
    (h : Q (.bool (!(p == q && c == e))) s) : wpAny (model prog w) A (compareOp .NotEq (.ref a) (.ref b)) Q E s := by
  have ha : s.heap.IsTuple a #[.int p t1, .str c t2] := ⟨_, (N _ h1).1, rfl, na, rfl⟩
  have hb : s.heap.IsTuple b #[.int q t3, .str e t4] := ⟨_, (N _ h2).1, rfl, nb, rfl⟩
  refine SeqAt.RcNeAt.tuples (e := fun j => match j with | 0 => p == q | _ => c == e) ha hb (by omega) (fun j h1 h2 => ?_) prog w E Q ?_
  · match j, h1, h2 with
    | 0, _, _ => exact SeqAt.EqAt.int_int _ _ _ _
    | 1, _, _ => exact SeqAt.EqAt.str_str _ _ _ _
  · show Q (.bool (!((List.range 2).all (fun j => match j with | 0 => p == q | _ => c == e) && true))) s
    rw [show List.range 2 = [0, 1] from rfl]
    have e1 : ([0, 1].all (fun j => match j with | 0 => p == q | _ => c == e) && true) = (p == q && c == e) := by simp
    rw [e1]; exact h
end
-- Let
theorem all_some {rows : List (Option Row)} (h : rows.any (·.isNone) = false) : ∃ rs : List Row, rows = rs.map some := by
  induction rows with
  | nil => exact ⟨[], rfl⟩
  | cons r t ih =>
    simp only [List.any_cons, Bool.or_eq_false_iff] at h
    obtain ⟨rs, rfl⟩ := ih h.2
    cases r with
    | none => cases h.1
    | some r => exact ⟨r :: rs, rfl⟩
theorem let_sg {led : List Row} {ah : List Col} {hk : Bool} : letB led ah true hk = true := by simp [letB]
theorem let_led {led : List Row} {ah : List Col} {sg hk : Bool} (h : led = []) : letB led ah sg hk = true := by simp [letB, h]
theorem let_ah {led : List Row} {ah : List Col} {hk : Bool} (h : led ≠ []) (h2 : ah = []) : letB led ah false hk = false := by
  cases led with
  | nil => exact absurd rfl h
  | cons r t => simp [letB, h2]
theorem let_ok {led : List Row} {ah : List Col} {hk : Bool} (h : led ≠ []) (h2 : ah ≠ []) : letB led ah false hk = okAll hk (turn0 led ah) led ah := by
  cases led with
  | nil => exact absurd rfl h
  | cons r t =>
    cases ah with
    | nil => exact absurd rfl h2
    | cons c u => simp [letB]
theorem okAll_take {hk t₀ : Bool} {led : List Row} {ah : List Col} {i : Nat} {r : Row} {c : Col} (hr : led[i]? = some r) (hc : ah[i]? = some c) : okAll hk t₀ (led.take (i + 1)) ah = (okAll hk t₀ (led.take i) ah && okB hk t₀ r c) := by
  have hi : (led.take i).length = i := by rw [List.length_take]; have := (List.getElem?_eq_some_iff.mp hr).1; omega
  rw [take_at hr, okAll_snoc, hi, hc]
theorem okAll_no {hk t₀ : Bool} {led : List Row} {ah : List Col} {i : Nat} {r : Row} {c : Col} (hr : led[i]? = some r) (hc : ah[i]? = some c) (h : okB hk t₀ r c = false) : okAll hk t₀ led ah = false := by
  cases hq : okAll hk t₀ led ah with
  | false => rfl
  | true =>
    have q := okAll_pre (a := led.take (i + 1)) (b := led.drop (i + 1)) (by rw [List.take_append_drop]; exact hq)
    rw [okAll_take hr hc, h, Bool.and_false] at q
    cases q
theorem okAll_min {hk t₀ : Bool} : ∀ {led : List Row} {ah : List Col}, okAll hk t₀ (led.take (min led.length ah.length)) ah = okAll hk t₀ led ah := by
  intro led
  induction led with
  | nil => intro ah; simp
  | cons r t ih =>
    intro ah
    cases ah with
    | nil => simp [okAll]
    | cons c u =>
      rw [List.length_cons, List.length_cons, Nat.succ_min_succ, List.take_succ_cons]
      show (okB hk t₀ r c && okAll hk t₀ _ u) = (okB hk t₀ r c && okAll hk t₀ t u)
      rw [ih]
structure LetP (n1 n2 : List (Addr × Obj)) (vs1 vs2 : List Value) (led ah : List Col) : Prop where
  at1 : ∀ (i : Nat) (v : Value), vs1[i]? = some v → ∃ (r : Col) (a : Addr) (n : Nat) (tp tc : Tok), led[i]? = some r ∧ v = .ref a ∧ (a, tupO [.int r.p tp, .str r.c tc, .bool r.d] n) ∈ n1
  at2 : ∀ (i : Nat) (v : Value), vs2[i]? = some v → ∃ (r : Col) (a : Addr) (n : Nat) (tp tc : Tok), ah[i]? = some r ∧ v = .ref a ∧ (a, tupO [.int r.p tp, .str r.c tc, .bool r.d] n) ∈ n2
  z1 : ∃ v, vs1[0]? = some v
  z2 : ∃ v, vs2[0]? = some v
theorem item_col {nw : List (Addr × Obj)} {vs : List Value} {cs : List Col} (h : DatAll nw vs (cs.map colD)) {i : Nat} {v : Value} (hv : vs[i]? = some v) : ∃ (r : Col) (a : Addr) (n : Nat) (tp tc : Tok), cs[i]? = some r ∧ v = .ref a ∧ (a, tupO [.int r.p tp, .str r.c tc, .bool r.d] n) ∈ nw := by
  obtain ⟨d, hd, hD⟩ := datAll_at h hv
  rw [List.getElem?_map] at hd
  cases hx : cs[i]? with
  | none => rw [hx] at hd; cases hd
  | some r =>
    rw [hx] at hd
    obtain rfl := Option.some.inj hd
    obtain ⟨a, n, tp, tc, rfl, hm⟩ := col_inv hD
    exact ⟨r, a, n, tp, tc, rfl, rfl, hm⟩
theorem LetP.of {n1 n2 : List (Addr × Obj)} {vs1 vs2 : List Value} {led ah : List Col} (h1 : DatAll n1 vs1 (led.map colD)) (h2 : DatAll n2 vs2 (ah.map colD)) (e1 : led ≠ []) (e2 : ah ≠ []) : LetP n1 n2 vs1 vs2 led ah := by
  have q1 := DatAll.length h1
  have q2 := DatAll.length h2
  rw [List.length_map] at q1 q2
  have p1 := List.length_pos_iff.mpr e1
  have p2 := List.length_pos_iff.mpr e2
  exact ⟨fun i v hv => item_col h1 hv, fun i v hv => item_col h2 hv, ⟨_, List.getElem?_eq_getElem (by omega)⟩, ⟨_, List.getElem?_eq_getElem (by omega)⟩⟩
theorem ahead_sub {hk : Bool} : ∀ {cols : List Col} {x : Col}, x ∈ aheadOf hk cols → x ∈ cols := by
  intro cols
  induction cols with
  | nil => intro x h; exact h
  | cons c t ih =>
    intro x h
    unfold aheadOf at h
    split at h
    · rw [List.mem_singleton.mp h]; exact .head _
    · rcases List.mem_cons.mp h with rfl | h
      · exact .head _
      · exact .tail _ (ih h)
theorem turn0_at {led ah : List Col} {r c : Col} (h1 : led[0]? = some r) (h2 : ah[0]? = some c) : turn0 led ah = (r.d == c.d) := by
  cases led with
  | nil => simp at h1
  | cons x t =>
    cases ah with
    | nil => simp at h2
    | cons y u => simp at h1 h2; subst h1 h2; rfl
theorem okB_f1 {x t1 t2 : Bool} (h : (t1 != t2) = true) : (x && (t1 == t2)) = false := by revert h; cases x <;> cases t1 <;> cases t2 <;> simp
-- Upc
noncomputable def SubC (a b : List (Addr × Obj)) : Prop := ∀ p ∈ a, (∀ v, p.2.data ≠ .cell v) → p ∈ b
theorem row_upC {a b : List (Addr × Obj)} {v : Value} {r : Option Row} (h : DatIn a v (rowD r)) (hs : SubC a b) : DatIn b v (rowD r) := by
  cases r with
  | none => cases h; exact .none
  | some r =>
    obtain ⟨x, n, tp, tc, rfl, hm⟩ := row_inv h
    exact row_mk (hs _ hm (fun _ h => by cases h))
theorem ord_sub {d : PathD} {cols : List Col} (G : PGood d cols) : ∀ x ∈ ordOf d true, x = rowidCol ∨ x ∈ cols := by
  obtain ⟨_, _, g⟩ := G
  intro x hx
  unfold ordOf at hx
  split at hx
  · cases hx
  · split at hx
    · exact .inl (List.mem_singleton.mp hx)
    · exact .inl (List.mem_singleton.mp hx)
    · cases hx
    · rename_i hk
      rcases List.mem_append.mp hx with hx | hx
      · exact .inr (g hk ▸ List.mem_of_mem_drop hx)
      · exact .inl (List.mem_singleton.mp hx)
theorem fix_sub {d : PathD} {cols : List Col} (G : PGood d cols) : ∀ y ∈ fixOf d, ∃ x ∈ cols, y = (x.p, x.c) := by
  obtain ⟨_, _, g⟩ := G
  intro y hy
  unfold fixOf at hy
  split at hy
  · rename_i hk
    obtain ⟨x, hx, rfl⟩ := List.mem_map.mp hy
    exact ⟨x, g hk ▸ List.mem_of_mem_take hx, rfl⟩
  · cases hy
theorem row_place : (-1 : Int) ≤ rowidCol.p := by decide
theorem row_ok : PyData.strOk rowidCol.c = true := by decide +kernel
-- Rgq
theorem rows_ok {ts : List Tm} (h : ∀ t ∈ ts, TOk t ∧ TPl t) {i : Nat} : ∀ r, some r ∈ (ts.take i).map srow → PyData.strOk r.c = true ∧ -1 ≤ r.p := by
  intro r hr
  obtain ⟨t, ht, e⟩ := List.mem_map.mp hr
  have ht := List.mem_of_mem_take ht
  unfold srow rowOf at e
  split at e
  · cases e
  · rename_i nm pl cc he
    split at e
    · obtain rfl := Option.some.inj e
      exact ⟨(h t ht).1 _ _ _ he, (h t ht).2 _ _ _ he⟩
    · cases e
theorem ord_oks {d : PathD} {cols : List Col} (G : PGood d cols) (h : ∀ x ∈ cols, PyData.strOk x.c = true) : ∀ x ∈ ordOf d true, PyData.strOk x.c = true := fun x hx => by
  rcases ord_sub G x hx with rfl | hx
  · exact row_ok
  · exact h x hx
theorem ord_pls {d : PathD} {cols : List Col} (G : PGood d cols) (h : ∀ x ∈ cols, -1 ≤ x.p) : ∀ x ∈ ordOf d true, -1 ≤ x.p := fun x hx => by
  rcases ord_sub G x hx with rfl | hx
  · exact row_place
  · exact h x hx
theorem fix_oks {d : PathD} {cols : List Col} (G : PGood d cols) (h : ∀ x ∈ cols, PyData.strOk x.c = true) : ∀ x ∈ fixOf d, PyData.strOk x.2 = true := fun y hy => by
  obtain ⟨x, hx, rfl⟩ := fix_sub G y hy
  exact h x hx
theorem ord_row {d : PathD} {hk : Bool} : ordOf d true = [] ∨ ∃ c ∈ ordOf d true, isRow c.p hk = true := by
  have hr : isRow rowidCol.p hk = true := by cases hk <;> decide
  unfold ordOf
  split
  · exact .inl rfl
  · split
    · exact .inr ⟨_, .head _, hr⟩
    · exact .inr ⟨_, .head _, hr⟩
    · exact .inl rfl
    · exact .inr ⟨_, List.mem_append_right _ (.head _), hr⟩
theorem at_start {hk sg : Bool} {fx : List (Int × Str)} {d : PathD} : At hk fx (ordOf d true) sg [] (ordOf d true) none sg where
  ok := let_led rfl
  s1 := fun h => ⟨h, rfl⟩
  b0 := fun _ => rfl
  o0 := fun _ _ => ⟨rfl, by
    by_cases h : aheadOf hk (ordOf d true) = []
    · exact .inr ⟨h, rfl⟩
    · exact .inl (List.length_pos_iff.mpr h), ord_row⟩
  o1 := fun h1 h2 => by rw [h1] at h2; cases h2
structure LvlF (ts : List Tm) (d : PathD) (hk : Bool) (n : Nat) (bo : Option Bool × Bool) (tk : List Row) : Prop where
  le : n ≤ ts.length
  rows : (ts.take n).map srow = tk.map some
  yes : isLet ((ts.take n).map srow) (ordOf d true) (fixOf d) d.single hk = true
  no : ∀ size, n < size → size ≤ ts.length → isLet ((ts.take size).map srow) (ordOf d true) (fixOf d) d.single hk = false
  one : d.single = true → bo = (none, true)
  many : d.single = false → bo.1 = (if ledOf (fixOf d) tk = [] then none else some (!turn0 (ledOf (fixOf d) tk) (aheadOf hk (ordOf d true)))) ∧ bo.2 = (!(aheadOf hk (ordOf d true)).isEmpty && decide ((aheadOf hk (ordOf d true)).length ≤ (ledOf (fixOf d) tk).length)) ∧ (ledOf (fixOf d) tk ≠ [] → aheadOf hk (ordOf d true) ≠ [])
theorem lvl_f {ts : List Tm} {d : PathD} {hk : Bool} : ∃ tk, LvlF ts d hk (lvl 4 hk (fixOf d) ts (ordOf d true) none d.single).1 (lvl 4 hk (fixOf d) ts (ordOf d true) none d.single).2 tk := by
  obtain ⟨tk, h1, h2, h3, h4, h5⟩ := lvl_main (num := 4) (hk := hk) (sg := d.single) (fx := fixOf d) ts [] (ordOf d true) none d.single at_start
  have e : ∀ k, (ts.map (rowOf 4)).take k = (ts.take k).map srow := fun k => (List.map_take ..).symm
  rw [e] at h1
  refine ⟨tk, lvl_le .., h1, ?_, fun size a b => ?_, h4, h5⟩
  · rw [h1]; exact h2
  · have q := h3 size a b
    rw [e] at q
    exact q
theorem lvl_mx {ts : List Tm} {d : PathD} {hk : Bool} {n : Nat} {bo : Option Bool × Bool} {tk : List Row} {M : Int} (f : LvlF ts d hk n bo tk)
    (h1 : M ∈ ((List.range (ts.length + 1)).filter fun (j : Nat) => isLet ((ts.take j).map srow) (ordOf d true) (fixOf d) d.single hk).map fun (j : Nat) => (j : Int))
    (h2 : ∀ a ∈ ((List.range (ts.length + 1)).filter fun (j : Nat) => isLet ((ts.take j).map srow) (ordOf d true) (fixOf d) d.single hk).map fun (j : Nat) => (j : Int), a ≤ M) : M = (n : Int) := by
  obtain ⟨j, hj, rfl⟩ := List.mem_map.mp h1
  obtain ⟨hj, hl⟩ := List.mem_filter.mp hj
  have hj := List.mem_range.mp hj
  have q := h2 (n : Int) (List.mem_map.mpr ⟨n, List.mem_filter.mpr ⟨List.mem_range.mpr (by have := f.le; omega), f.yes⟩, rfl⟩)
  by_cases hn : n < j
  · rw [f.no j hn (by omega)] at hl; cases hl
  · omega
theorem lvl_ne {ts : List Tm} {d : PathD} {hk : Bool} {n : Nat} {bo : Option Bool × Bool} {tk : List Row} (f : LvlF ts d hk n bo tk) : 0 < (((List.range (ts.length + 1)).filter fun (j : Nat) => isLet ((ts.take j).map srow) (ordOf d true) (fixOf d) d.single hk).map fun (j : Nat) => (j : Int)).length :=
  List.length_pos_iff.mpr (List.ne_nil_of_mem (List.mem_map.mpr ⟨n, List.mem_filter.mpr ⟨List.mem_range.mpr (by have := f.le; omega), f.yes⟩, rfl⟩))
theorem ints_snoc {ys : List Value} {p : Nat → Bool} {i : Nat} {t : Tok} (h : IntsAre ys (((List.range i).filter p).map fun (j : Nat) => (j : Int))) (hp : p i = true) : IntsAre (ys ++ [.int (i : Int) t]) (((List.range (i + 1)).filter p).map fun (j : Nat) => (j : Int)) := by
  rw [List.range_succ, List.filter_append, List.map_append, List.filter_cons_of_pos hp]
  exact h.append (.cons _ _ .nil)
theorem ints_same {ys : List Value} {p : Nat → Bool} {i : Nat} (h : IntsAre ys (((List.range i).filter p).map fun (j : Nat) => (j : Int))) (hp : p i = false) : IntsAre ys (((List.range (i + 1)).filter p).map fun (j : Nat) => (j : Int)) := by
  rw [List.range_succ, List.filter_append, List.map_append, List.filter_cons_of_neg (by simp [hp])]
  simpa using h
theorem path_fix {nw : List (Addr × Obj)} {x : Addr} {d : PathD} {cols : List Col} (P : PathIs nw x d) (G : PGood d cols) (h : ∀ x ∈ cols, PyData.strOk x.c = true) :
    ∃ d' : PathD, PathIs nw x d' ∧ d'.eqn ≤ d'.cols.length ∧ d'.cols.length ≤ 8 ∧ ordOf d' true = ordOf d true ∧ fixOf d' = fixOf d ∧ d'.single = d.single ∧ ∀ x ∈ d'.cols, PyData.strOk x.c = true := by
  obtain ⟨g1, g2, g3⟩ := G
  by_cases hk : d.kind = .index
  · exact ⟨d, P, g1, g2, rfl, rfl, rfl, g3 hk ▸ h⟩
  · obtain ⟨kd, cs, en, hl, sg⟩ := d
    dsimp only at hk g1 g2 P ⊢
    obtain ⟨f, t, li, eq, evs, ek, ix, fi, cl, cvs, ck, h1, h2, h3, h4, h5, h6, h7, h8⟩ := P
    refine ⟨⟨kd, cs.map fun _ => rowidCol, en, hl, sg⟩, ⟨f, t, li, eq, evs, ek, ix, fi, cl, cvs, ck, h1, h2, h3, h4, h5, h6, h7, fun q => absurd q hk⟩, by simpa using g1, by simpa using g2, ?_, ?_, rfl, fun x hx => ?_⟩
    · cases kd <;> first | rfl | exact absurd rfl hk
    · cases kd <;> first | rfl | exact absurd rfl hk
    · obtain ⟨_, _, rfl⟩ := List.mem_map.mp hx; exact row_ok
theorem tk_ok {ts : List Tm} {d : PathD} {hk : Bool} {n : Nat} {bo : Option Bool × Bool} {tk : List Row} (f : LvlF ts d hk n bo tk) (h : ∀ t ∈ ts, TOk t ∧ TPl t) : ∀ x ∈ tk, PyData.strOk x.c = true := fun x hx =>
  (rows_ok h x (by rw [f.rows]; exact List.mem_map.mpr ⟨x, hx, rfl⟩)).1
theorem led_len {ts : List Tm} {d : PathD} {hk : Bool} {n : Nat} {bo : Option Bool × Bool} {tk : List Row} (f : LvlF ts d hk n bo tk) (fx : List (Int × Str)) : (ledOf fx tk).length ≤ ts.length := by
  have q := congrArg List.length f.rows
  have q2 := List.length_filter_le (fun r : Row => !decide ((r.p, r.c) ∈ fx)) tk
  have q3 := f.le
  simp only [List.length_map, List.length_take] at q
  unfold ledOf
  omega
theorem ahead_len {hk : Bool} : ∀ {cols : List Col}, (aheadOf hk cols).length ≤ cols.length := by
  intro cols
  induction cols with
  | nil => exact Nat.le_refl _
  | cons c t ih =>
    unfold aheadOf
    split
    · simp
    · simpa using ih
-- Svs
structure TbR (nw : List (Addr × Obj)) (tb : Addr) (hky : Bool) (wa wb : Str) (cl9 c0 c1 c2 : Addr) (ck : Nat) (gt q0 q1 q2 : Str → Option Value) : Prop where
  it : Ins nw tb 992 gt
  tn : ∃ t, gt (Str.ofString "name") = some (.str (Str.ofString "t") t)
  tc : gt (Str.ofString "columns") = some (.ref cl9)
  tr : ∃ t, gt (Str.ofString "rowid_place") = some (if hky = true then Value.int 1 t else Value.none)
  l : (cl9, listOf [Value.ref c0, .ref c1, .ref c2].toArray ck) ∈ nw
  i0 : Ins nw c0 917 q0
  i1 : Ins nw c1 917 q1
  i2 : Ins nw c2 917 q2
  n0 : ∃ t, q0 (Str.ofString "name") = some (.str (Str.ofString "a") t)
  n1 : ∃ t, q1 (Str.ofString "name") = some (.str (Str.ofString "b") t)
  n2 : ∃ t, q2 (Str.ofString "name") = some (.str (Str.ofString "c") t)
  f0 : ∃ t, q0 (Str.ofString "affinity") = some (.str (Str.ofString "text") t)
  f1 : ∃ t, q1 (Str.ofString "affinity") = some (.str (Str.ofString "integer") t)
  f2 : ∃ t, q2 (Str.ofString "affinity") = some (.str (Str.ofString "blob") t)
  o0 : ∃ t, q0 (Str.ofString "collation") = some (.str (foldS wa) t)
  o1 : ∃ t, q1 (Str.ofString "collation") = some (.str (Str.ofString "binary") t)
  o2 : ∃ t, q2 (Str.ofString "collation") = some (.str (foldS wb) t)
section
variable {prog : Program} {w : World} {A : Around} {E : Value → Shared → Prop} {s : Shared} {h₀ : Heap} {L a : Addr} {m : Str → Option Value} {K : Frag}
theorem nin_tab {Q : Value → Shared → Prop} {s1 s2 s3 z : Str} {t1 t2 t3 t : Tok} {n : Nat} {sl : Array (Option Value)} (X : K.In h₀) (F : Fr h₀ L s.heap m) (e : K.lookup a = some { cls := .type "tuple", dict := none, data := .seq #[.str s1 t1, .str s2 t2, .str s3 t3] n, slots := sl }) (h : Q (.bool (!(s1 == z || s2 == z || s3 == z))) s) :
    wpAny (model prog w) A (compareOp .NotIn (.str z t) (.ref a)) Q E s := by
  have hg := F.keep _ _ (X _ _ e)
  have e9 : (#[Value.str s1 t1, .str s2 t2, .str s3 t3] : Array Value).any (fun y => match y with | .str x _ => x == z | _ => false) = (s1 == z || s2 == z || s3 == z) := by simp [Bool.or_assoc]
  refine SeqAt.notIn_tupleAt (fun y => match y with | .str x _ => x == z | _ => false) ⟨_, hg, rfl, n, rfl⟩ (fun y hy => ?_) (by rw [e9]; exact h)
  simp at hy
  rcases hy with rfl | rfl | rfl <;> exact SeqAt.EqAt.str_str _ _ _ _
end
-- Tsr
noncomputable def cols3 (wa wb : Str) : List (Str × Str × Str) := [(Str.ofString "a", Str.ofString "text", foldS wa), (Str.ofString "b", Str.ofString "integer", Str.ofString "binary"), (Str.ofString "c", Str.ofString "blob", foldS wb)]
theorem TbR.col {nw : List (Addr × Obj)} {tb : Addr} {hky : Bool} {wa wb : Str} {cl9 c0 c1 c2 : Addr} {ck : Nat} {gt q0 q1 q2 : Str → Option Value} (h : TbR nw tb hky wa wb cl9 c0 c1 c2 ck gt q0 q1 q2) {i : Nat} {v : Value} (hv : [Value.ref c0, .ref c1, .ref c2][i]? = some v) :
    ∃ (c : Addr) (q : Str → Option Value) (x : Str × Str × Str) (t1 t2 t3 : Tok), v = .ref c ∧ Ins nw c 917 q ∧ q (Str.ofString "name") = some (.str x.1 t1) ∧ q (Str.ofString "affinity") = some (.str x.2.1 t2) ∧ q (Str.ofString "collation") = some (.str x.2.2 t3) ∧ (cols3 wa wb)[i]? = some x := by
  match i, hv with
  | 0, hv =>
    obtain rfl := Option.some.inj hv
    obtain ⟨t1, h1⟩ := h.n0
    obtain ⟨t2, h2⟩ := h.f0
    obtain ⟨t3, h3⟩ := h.o0
    exact ⟨_, _, (_, _, _), t1, t2, t3, rfl, h.i0, h1, h2, h3, rfl⟩
  | 1, hv =>
    obtain rfl := Option.some.inj hv
    obtain ⟨t1, h1⟩ := h.n1
    obtain ⟨t2, h2⟩ := h.f1
    obtain ⟨t3, h3⟩ := h.o1
    exact ⟨_, _, (_, _, _), t1, t2, t3, rfl, h.i1, h1, h2, h3, rfl⟩
  | 2, hv =>
    obtain rfl := Option.some.inj hv
    obtain ⟨t1, h1⟩ := h.n2
    obtain ⟨t2, h2⟩ := h.f2
    obtain ⟨t3, h3⟩ := h.o2
    exact ⟨_, _, (_, _, _), t1, t2, t3, rfl, h.i2, h1, h2, h3, rfl⟩
theorem TbR.tab {nw : List (Addr × Obj)} {tb : Addr} {hky : Bool} {wa wb : Str} {cl9 c0 c1 c2 : Addr} {ck : Nat} {gt q0 q1 q2 : Str → Option Value} (h : TbR nw tb hky wa wb cl9 c0 c1 c2 ck gt q0 q1 q2) : TabIs nw tb hky := by
  obtain ⟨t, ht⟩ := h.tr
  exact ⟨gt, t, h.it, ht⟩
-- Lwl
theorem k_col {d : Int} (h : d < 3) (h0 : 0 ≤ d) : ∃ n : Nat, 1 + d = (n : Int) ∧ n ≤ 3 := ⟨(1 + d).toNat, by omega, by omega⟩
structure WOk (x : Str) : Prop where
  z : x.cps.size ≤ 64
  f : foldS x = Str.ofString "binary" ∨ foldS x = Str.ofString "nocase" ∨ foldS x = Str.ofString "rtrim"
theorem cols3_ok {w0 w1 : Str} (h0 : WOk w0) (h1 : WOk w1) : ∀ x ∈ cols3 w0 w1, x.2.2.cps.size ≠ 0 ∧ x.2.2.cps.size ≤ 64 ∧ PyData.strOk x.2.2 = true := by
  have q : ∀ s : Str, (s = Str.ofString "binary" ∨ s = Str.ofString "nocase" ∨ s = Str.ofString "rtrim") → s.cps.size ≠ 0 ∧ s.cps.size ≤ 64 ∧ PyData.strOk s = true := by
    rintro s (rfl | rfl | rfl)
    · exact ⟨by decide +kernel, by decide +kernel, by decide +kernel⟩
    · exact ⟨by decide +kernel, by decide +kernel, by decide +kernel⟩
    · exact ⟨by decide +kernel, by decide +kernel, by decide +kernel⟩
  unfold cols3
  simp only [List.forall_mem_cons]
  exact ⟨q _ h0.f, q _ (.inl rfl), q _ h1.f, fun _ h => nomatch h⟩
-- Plc
section
variable {prog : Program} {w : World} {A : Around} {E : Value → Shared → Prop} {s : Shared} {h₀ : Heap} {L a : Addr} {m : Str → Option Value} {K : Frag}
theorem in_tab {Q : Value → Shared → Prop} {s1 s2 s3 z : Str} {t1 t2 t3 t : Tok} {n : Nat} {sl : Array (Option Value)} (X : K.In h₀) (F : Fr h₀ L s.heap m) (e : K.lookup a = some { cls := .type "tuple", dict := none, data := .seq #[.str s1 t1, .str s2 t2, .str s3 t3] n, slots := sl }) (h : Q (.bool (s1 == z || s2 == z || s3 == z)) s) :
    wpAny (model prog w) A (compareOp .In (.str z t) (.ref a)) Q E s := by
  have hg := F.keep _ _ (X _ _ e)
  have e9 : (#[Value.str s1 t1, .str s2 t2, .str s3 t3] : Array Value).any (fun y => match y with | .str x _ => x == z | _ => false) = (s1 == z || s2 == z || s3 == z) := by simp [Bool.or_assoc]
  refine SeqAt.in_tupleAt (fun y => match y with | .str x _ => x == z | _ => false) ⟨_, hg, rfl, n, rfl⟩ (fun y hy => ?_) (by rw [e9]; exact h)
  simp at hy
  rcases hy with rfl | rfl | rfl <;> exact SeqAt.EqAt.str_str _ _ _ _
end
section
--VARS
noncomputable def ColNe (nw : List (Addr × Obj)) (x : Str) (v : Value) : Prop := ∃ (c : Addr) (g : Str → Option Value) (y : Str) (t : Tok), v = .ref c ∧ Ins nw c 917 g ∧ g (Str.ofString "name") = some (.str y t) ∧ y.cps.size ≤ 64 ∧ (foldS y == x) = false
end
-- Acl
inductive TyIs : Value → Str → Prop
  | n : TyIs .none (Str.ofString "blob")
  | t (k : Tok) : TyIs (.str (Str.ofString "TEXT") k) (Str.ofString "text")
  | i (k : Tok) : TyIs (.str (Str.ofString "INTEGER") k) (Str.ofString "integer")
theorem TyIs.handed {v : Value} {a : Str} (h : TyIs v a) : handedIn v = true := by cases h <;> rfl
theorem ColNe.mono {nw nw' : List (Addr × Obj)} {x : Str} {v : Value} (h : ColNe nw x v) (hs : ∀ p ∈ nw, p ∈ nw') : ColNe nw' x v := by
  obtain ⟨c, g, y, t, h1, h2, h3⟩ := h
  exact ⟨c, g, y, t, h1, h2.mono hs, h3⟩
section
variable {prog : Program} {w : World} {A : Around} {E : Value → Shared → Prop} {s : Shared} {h₀ : Heap} {L a : Addr} {news : List (Addr × Obj)}
theorem nn_tup {Q : Value → Shared → Prop} {i : Int} {t : Tok} {n : Nat} (N : News h₀ L s.heap news) (hm : (a, tupO [.none, .int i t] n) ∈ news) (h : Q (.bool false) s) : wpAny (model prog w) A (compareOp .NotIn .none (.ref a)) Q E s :=
  SeqAt.notIn_tupleAt (fun y => match y with | .none => true | _ => false) ⟨_, (N _ hm).1, rfl, n, rfl⟩ (fun y hy => by
    simp at hy
    rcases hy with rfl | rfl
    · exact SeqAt.EqAt.same _
    · show SeqAt.EqAt _ _ _ _ false
      exact SeqAt.EqAt.int_none _ _) (by simpa using h)
end
-- Tfr
noncomputable def nmA (i : Nat) : Str := if i = 0 then Str.ofString "a" else if i = 1 then Str.ofString "b" else Str.ofString "c"
noncomputable def afA (i : Nat) : Str := if i = 0 then Str.ofString "text" else if i = 1 then Str.ofString "integer" else Str.ofString "blob"
theorem lt3 {i : Nat} (h : i < 3) : i = 0 ∨ i = 1 ∨ i = 2 := by omega
theorem nm_sz (i : Nat) : (nmA i).cps.size ≤ 64 := by
  unfold nmA
  split
  · decide +kernel
  · split <;> decide +kernel
theorem nm_row {i : Nat} (h : i < 3) : (Str.ofString "rowid" == foldS (nmA i) || Str.ofString "oid" == foldS (nmA i) || Str.ofString "_rowid_" == foldS (nmA i)) = false := by
  rcases lt3 h with rfl | rfl | rfl <;> decide +kernel
theorem nm_ne {i j : Nat} (h : i < 3) (hj : j < i) : (foldS (nmA j) == foldS (nmA i)) = false := by
  have h2 : i = 1 ∧ j = 0 ∨ i = 2 ∧ j = 0 ∨ i = 2 ∧ j = 1 := by omega
  rcases h2 with ⟨rfl, rfl⟩ | ⟨rfl, rfl⟩ | ⟨rfl, rfl⟩ <;> decide +kernel
structure CdIs (nw : List (Addr × Obj)) (x : Addr) (nm : Str) (tyv : Value) (k : Addr) (g : Str → Option Value) (t : Tok) : Prop where
  i : Ins nw x 552 g
  n : g (Str.ofString "name") = some (.str nm t)
  y : g (Str.ofString "type_name") = some tyv
  c : g (Str.ofString "constraints") = some (.ref k)
structure StIs (nw : List (Addr × Obj)) (st l l2 : Addr) (x : Nat → Addr) (k : Nat → Addr) (ty : Nat → Value) (g : Str → Option Value) (gs : Nat → Str → Option Value) (ts : Nat → Tok) (tn tt : Tok) (kl kl2 : Nat) : Prop where
  i : Ins nw st 578 g
  n : g (Str.ofString "name") = some (.str (Str.ofString "t") tn)
  tx : g (Str.ofString "text") = some (.str (Str.ofString "") tt)
  c : g (Str.ofString "columns") = some (.ref l)
  d : g (Str.ofString "constraints") = some (.ref l2)
  l : (l, listOf [Value.ref (x 0), .ref (x 1), .ref (x 2)].toArray kl) ∈ nw
  l2 : (l2, listOf ([] : List Value).toArray kl2) ∈ nw
  cd : ∀ i, i < 3 → CdIs nw (x i) (nmA i) (ty i) (k i) (gs i) (ts i)
  ht : ∀ i, i < 3 → TyIs (ty i) (afA i)
structure CoIs (nw : List (Addr × Obj)) (k : Nat → Addr) (w0 w1 : Str) (hky : Bool) (kvs : List Value) (qa qb qc : Addr) (m0 m1 m2 z0 z1 z2 : Nat) (a0 b0 a1 a2 b2 : Tok) : Prop where
  k0 : (k 0, listOf [Value.ref qa].toArray m0) ∈ nw
  c0 : (qa, tupO [.str (Str.ofString "collate") a0, .str w0 b0] z0) ∈ nw
  k1 : (k 1, listOf kvs.toArray m1) ∈ nw
  c1 : (hky = false ∧ kvs = []) ∨ (hky = true ∧ kvs = [Value.ref qb] ∧ (qb, tupO [.str (Str.ofString "primary key") a1, .bool false] z1) ∈ nw)
  k2 : (k 2, listOf [Value.ref qc].toArray m2) ∈ nw
  c2 : (qc, tupO [.str (Str.ofString "collate") a2, .str w1 b2] z2) ∈ nw
theorem big_nn {c : Int} {b : Bool} : 0 ≤ (if -1 - c > c then -1 - c else c) * (if b = true then (1 : Int) else 0) := by
  split <;> split <;> omega
end
section
local macro_rules | `(tactic| k_all) => `(tactic| first | assumption | exact allNe_of (by assumption))
local macro_rules | `(tactic| walk_at "subscriptTail Name Constant ref int") => `(tactic| (k_here; k_dflt (refine' item_led ?k1 ?k2 ?k3 ?k4 ?k5 ?_; (case k1 => k_asm); (case k2 => k_mem); (case k3 => decide); (case k4 => decide); (case k5 => exact rfl); k_whole)))
local macro_rules | `(tactic| walk_at "setItem ref int") => `(tactic| (k_here; k_dflt (refine' set_led ?k1 ?k2 ?k3 ?k4 ?k5 ?k6 ?_; (case k1 => k_asm); (case k2 => k_asm); (case k3 => k_upd); (case k4 => decide); (case k5 => decide); (case k6 => decide); k_whole); intro h' F' N'; (try k_sweep)))
section
variable {prog : Program} {w : World} {p : Program} {loose : List Str} {mean : ExcName → Option Value} {mg mb : Str → Option Value} {dp un : Nat} {gd : Option (List Code)} {cn : Str} {cs : Scope} {ca : Addr} {ccd : Value} {cl : List (Str × Addr)} {outer : List Env} {A₀ : Around} {base h₀ : Heap} {L : Addr} {m : Str → Option Value} {nw : List (Addr × Obj)} {s : Shared} {Q E : Value → Shared → Prop}
theorem take_c {src : Addr} {a b top : Int} {ta tb tt : Tok} {n : Nat}
    (S : St w p loose mean mg mb A₀ base outer h₀ L m s ((src, listOf [.int a ta, .int b tb].toArray n) :: nw)) (hap : ∀ p ∈ nw, p.1 ≠ src) (hk : cs.kind = .function)
    (ha : 0 ≤ a) (hb : 0 ≤ b) (hb2 : b < 2147483647) (ht : 0 < top) (ht2 : top < 100) (hdp : dp + 1 < recursionLimit) (hun : un + 8 < cLine)
    (ret : ∀ (d : Int) (t : Tok) (a' b' : Int) (ta' tb' : Tok) (h' : Heap) (tk' : Nat), 0 ≤ d → d < top → 0 ≤ a' → 0 ≤ b' → b' < 2147483647 → Fr h₀ L h' m → News h₀ L h' ((src, listOf [.int a' ta', .int b' tb'].toArray n) :: nw) → Q (.int d t) { s with heap := h', toks := tk' }) :
    wpAny (model prog w) (ktrTop dp un gd cn cs L ca ccd cl outer) (call (.ref 1143) [.ref src, .int top tt]) Q E s := by
  obtain ⟨B, F, X, N, T⟩ := S
  refine wpAny_call ?_
  k_dflt ktr_enter
  w_strict k_steps
  · exact ret _ _ _ _ _ _ _ _ (fm_nonneg ht) (fm_lt ht) (fd_nonneg ht ha) hb hb2 (by k_asm) (by k_asm)
  · exact ret _ _ _ _ _ _ _ _ (fm_nonneg ht) (fm_lt ht) ha (fm_nonneg (by decide)) (fm_lt (by decide)) (by k_asm) (by k_asm)
end
end
section
theorem room0 {u a b l : Nat} (h : u + a < l) (e : Nat.ble b a = true) : u + b < l := Nat.lt_of_le_of_lt (Nat.add_le_add_left (Nat.le_of_ble_eq_true e) u) h
theorem room1 {u a b c l : Nat} (h : u + a < l) (e : Nat.ble (c + b) a = true) : u + c + b < l := by rw [Nat.add_assoc]; exact room0 h e
theorem roomA {u a l : Nat} (h : u + a < l) : u < l := Nat.lt_of_le_of_lt (Nat.le_add_right u a) h
theorem room2 {u a b c d l : Nat} (h : u + a < l) (e : Nat.ble (c + (d + b)) a = true) : u + c + d + b < l := by rw [Nat.add_assoc]; exact room1 h e
noncomputable def locOk (cs : Scope) (x : Str) : Bool := (match cs.kind with | .function => true | _ => false) && (match cs.names.lookup x with | some .local => true | _ => false) && !(x == ("__debug__" : Str))
noncomputable def cellOk (cs : Scope) (x : Str) : Bool := (match cs.kind with | .function => true | _ => false) && (match cs.names.lookup x with | some .cell => true | _ => false) && !(x == ("__debug__" : Str))
noncomputable def globOk (cs : Scope) (x : Str) : Bool := (match cs.kind with | .function => true | _ => false) && (match cs.names.lookup x with | some .globalImplicit => true | _ => false) && !(x == ("__debug__" : Str))
noncomputable def attrOk (K : Frag) (C : Addr) (a : Str) : Bool := plainGet K C a && hasDictIn K C && (match findIn K (.ref C) a with | some r => noGet K r | none => false)
theorem locOk_inv {cs : Scope} {x : Str} (h : locOk cs x = true) : cs.kind = .function ∧ cs.names.lookup x = some .local ∧ (x == ("__debug__" : Str)) = false := by
  unfold locOk at h
  rw [Bool.and_eq_true, Bool.and_eq_true] at h
  obtain ⟨⟨h1, h2⟩, h3⟩ := h
  refine ⟨?_, ?_, by simpa using h3⟩
  · split at h1
    · assumption
    · cases h1
  · split at h2
    · assumption
    · cases h2
theorem cellOk_inv {cs : Scope} {x : Str} (h : cellOk cs x = true) : cs.kind = .function ∧ cs.names.lookup x = some .cell ∧ (x == ("__debug__" : Str)) = false := by
  unfold cellOk at h
  rw [Bool.and_eq_true, Bool.and_eq_true] at h
  obtain ⟨⟨h1, h2⟩, h3⟩ := h
  refine ⟨?_, ?_, by simpa using h3⟩
  · split at h1
    · assumption
    · cases h1
  · split at h2
    · assumption
    · cases h2
noncomputable def rdOk (cs : Scope) (x : Str) : Bool := (match cs.kind with | .function => true | _ => false) && (match cs.names.lookup x with | some .cell => true | some .free => !(x == Str.ofString "__classdict__") | _ => false) && !(x == ("__debug__" : Str))
theorem rdOk_inv {cs : Scope} {x : Str} (h : rdOk cs x = true) : cs.kind = .function ∧ (cs.names.lookup x = some .cell ∨ (cs.names.lookup x = some .free ∧ (x == Str.ofString "__classdict__") = false)) ∧ (x == ("__debug__" : Str)) = false := by
  unfold rdOk at h
  rw [Bool.and_eq_true, Bool.and_eq_true] at h
  obtain ⟨⟨h1, h2⟩, h3⟩ := h
  refine ⟨?_, ?_, by simpa using h3⟩
  · split at h1
    · assumption
    · cases h1
  · split at h2
    · exact .inl (by assumption)
    · exact .inr ⟨by assumption, by simpa using h2⟩
    · cases h2
noncomputable def EnvOk (env : Env) (cs : Scope) (L : Addr) (cl : List (Str × Addr)) : Prop := env.scope = cs ∧ env.locals = L ∧ env.globals = mainGlobals ∧ env.builtins = builtinsNs ∧ env.cells = cl
theorem globOk_inv {cs : Scope} {x : Str} (h : globOk cs x = true) : cs.kind = .function ∧ cs.names.lookup x = some .globalImplicit ∧ (x == ("__debug__" : Str)) = false := by
  unfold globOk at h
  rw [Bool.and_eq_true, Bool.and_eq_true] at h
  obtain ⟨⟨h1, h2⟩, h3⟩ := h
  refine ⟨?_, ?_, by simpa using h3⟩
  · split at h1
    · assumption
    · cases h1
  · split at h2
    · assumption
    · cases h2
inductive CP : CmpOp → Value → Value → Bool → Prop
  | ltI {a b : Int} {u v : Tok} : CP .Lt (.int a u) (.int b v) (decide (a < b))
  | leI {a b : Int} {u v : Tok} : CP .LtE (.int a u) (.int b v) (decide (a ≤ b))
  | gtI {a b : Int} {u v : Tok} : CP .Gt (.int a u) (.int b v) (decide (a > b))
  | geI {a b : Int} {u v : Tok} : CP .GtE (.int a u) (.int b v) (decide (a ≥ b))
  | eqI {a b : Int} {u v : Tok} : CP .Eq (.int a u) (.int b v) (a == b)
  | neI {a b : Int} {u v : Tok} : CP .NotEq (.int a u) (.int b v) (a != b)
  | eqS {a b : Str} {u v : Tok} : CP .Eq (.str a u) (.str b v) (a == b)
  | neS {a b : Str} {u v : Tok} : CP .NotEq (.str a u) (.str b v) (a != b)
  | eqB {a b : Bool} : CP .Eq (.bool a) (.bool b) (a == b)
  | neB {a b : Bool} : CP .NotEq (.bool a) (.bool b) (a != b)
  | eqIN {a : Int} {u : Tok} : CP .Eq (.int a u) .none false
  | isN {v : Value} (hv : (v == Value.none) = false) : CP .Is v .none false
  | isNN : CP .Is .none .none true
  | notN {v : Value} (hv : (v == Value.none) = false) : CP .IsNot v .none true
  | notNN : CP .IsNot .none .none false
theorem CP.sound {op : CmpOp} {a b : Value} {r : Bool} (C : CP op a b r) {prog : Program} {w : World} {A : Around} {E : Value → Shared → Prop} {s : Shared} {Q : Value → Shared → Prop} (h : Q (.bool r) s) : wpAny (model prog w) A (compareOp op a b) Q E s := by
  cases C with
  | ltI => exact lt_int h
  | leI => exact le_int h
  | gtI => exact gt_int h
  | geI => exact ge_int h
  | eqI => exact eq_int h
  | neI => exact ne_int h
  | eqS => exact eq_str h
  | neS => exact ne_str h
  | eqB => exact eq_bool h
  | neB => exact ne_bool h
  | eqIN => exact EqNone.eq_int_none h
  | isN hv => exact is_none_ne (by simpa using hv) h
  | isNN => exact is_none_none h
  | notN hv => exact isnot_none_ne (by simpa using hv) h
  | notNN => exact isnot_none_none h
inductive BI : Operator → Int → Int → Int → Prop
  | add {a b : Int} : BI .Add a b (a + b)
  | sub {a b : Int} : BI .Sub a b (a - b)
  | mul {a b : Int} (h : IntMulOk a b) : BI .Mult a b (a * b)
  | fdiv {a b : Int} (h : b ≠ 0) (hp : Builtin.divisionGoesByPylong a b = false) : BI .FloorDiv a b (a.fdiv b)
  | fmod {a b : Int} (h : b ≠ 0) : BI .Mod a b (a.fmod b)
theorem BI.sound {op : Operator} {a b r : Int} {u v : Tok} (C : BI op a b r) {prog : Program} {w : World} {A : Around} {E : Value → Shared → Prop} {s : Shared} {Q : Value → Shared → Prop} (h : Q (.int r s.toks) { s with toks := s.toks + 1 }) : wpAny (model prog w) A (binaryOp op (.int a u) (.int b v)) Q E s := by
  cases C with
  | add => exact add_int h
  | sub => exact sub_int h
  | mul hm => exact mul_int h hm
  | fdiv hm hp => exact floordiv_int hm h (.inl hp)
  | fmod hm => exact mod_int hm h
theorem boot_len : bootBuiltins (Str.ofString "len") = some (.builtin "len") := by boot_fast
noncomputable def ItemAt (nw : List (Addr × Obj)) (D : Addr) (k : Int) (v : Value) : Prop := (∃ (vs : List Value) (n : Nat), (D, listOf vs.toArray n) ∈ nw ∧ 0 ≤ k ∧ k < 2 ^ 63 ∧ vs[k.toNat]? = some v) ∨ ∃ (vs : List Value) (n j : Nat), (D, tupO vs n) ∈ nw ∧ -(2 ^ 63) ≤ k ∧ k < 2 ^ 63 ∧ seqIndex? k vs.length = some j ∧ vs[j]? = some v
theorem ItemAt.lst {nw : List (Addr × Obj)} {D : Addr} {k : Int} {v : Value} {vs : List Value} {n : Nat} (hm : (D, listOf vs.toArray n) ∈ nw) (h0 : 0 ≤ k) (h1 : k < 2 ^ 63) (hx : vs[k.toNat]? = some v) : ItemAt nw D k v := .inl ⟨vs, n, hm, h0, h1, hx⟩
theorem ItemAt.tup {nw : List (Addr × Obj)} {D : Addr} {k : Int} {v : Value} {vs : List Value} {n j : Nat} (hm : (D, tupO vs n) ∈ nw) (h0 : -(2 ^ 63) ≤ k) (h1 : k < 2 ^ 63) (hj : seqIndex? k vs.length = some j) (hx : vs[j]? = some v) : ItemAt nw D k v := .inr ⟨vs, n, j, hm, h0, h1, hj, hx⟩
inductive PV (K : Frag) (cs : Scope) (cl : List (Str × Addr)) (m : Str → Option Value) (nw : List (Addr × Obj)) : Expr → Nat → Value → Nat → Prop
  | loc {x : Str} {pos : Pos} {t : Nat} {v : Value} (hx : locOk cs x = true) (hv : m x = some v) : PV K cs cl m nw (.Name x pos) t v t
  | cell {x : Str} {pos : Pos} {t : Nat} {a : Addr} {o : Obj} {v : Value} (hx : rdOk cs x = true) (hc : cl.lookup x = some a) (hm : (a, o) ∈ nw) (hd : o.data = .cell (some v)) : PV K cs cl m nw (.Name x pos) t v t
  | glob {x : Str} {pos : Pos} {t : Nat} {v : Value} (hx : globOk cs x = true) (hv : nsIn K mainGlobals x = some (some v)) : PV K cs cl m nw (.Name x pos) t v t
  | int {i : Int} {k : Nat} {pos : Pos} {t : Nat} : PV K cs cl m nw (.Constant (.int i) k pos) t (.int i t) (t + 1)
  | str {i : Str} {k : Nat} {pos : Pos} {t : Nat} : PV K cs cl m nw (.Constant (.str i) k pos) t (.str i t) (t + 1)
  | bool {i : Bool} {k : Nat} {pos : Pos} {t : Nat} : PV K cs cl m nw (.Constant (.bool i) k pos) t (.bool i) t
  | none {k : Nat} {pos : Pos} {t : Nat} : PV K cs cl m nw (.Constant .none k pos) t .none t
  | attr {e : Expr} {pos : Pos} {a : Str} {t t1 : Nat} {o C : Addr} {f : Str → Option Value} {v : Value} (p : PV K cs cl m nw e t (.ref o) t1) (I : Ins nw o C f) (ha : attrOk K C a = true) (hl : f a = some v) (hh : handedIn v = true) : PV K cs cl m nw (.Attribute e a pos) t v (t1 + 1)
  | neg {i : Int} {k : Nat} {pos pos' : Pos} {t : Nat} : PV K cs cl m nw (.UnaryOp .USub (.Constant (.int i) k pos') pos) t (.int (-i) (t + 1)) (t + 2)
  | sub {e ix : Expr} {pos : Pos} {t t1 t2 : Nat} {D : Addr} {k : Int} {u : Tok} {v : Value} (p : PV K cs cl m nw e t (.ref D) t1) (q : PV K cs cl m nw ix t1 (.int k u) t2) (h : ItemAt nw D k v) : PV K cs cl m nw (.Subscript e ix pos) t v t2
  | cmp {l r : Expr} {op : CmpOp} {pos : Pos} {t t1 t2 : Nat} {u v : Value} {b : Bool} (hm : behindInMarks op r = false) (p : PV K cs cl m nw l t u t1) (q : PV K cs cl m nw r t1 v t2) (hc : CP op u v b) : PV K cs cl m nw (.Compare l [op] [r] pos) t (.bool b) t2
  | bin {l r : Expr} {op : Operator} {pos : Pos} {t t1 t2 : Nat} {a b d : Int} {u v : Tok} (p : PV K cs cl m nw l t (.int a u) t1) (q : PV K cs cl m nw r t1 (.int b v) t2) (hb : BI op a b d) : PV K cs cl m nw (.BinOp l op r pos) t (.int d t2) (t2 + 1)
  | orB {e1 e2 : Expr} {rest : List Expr} {pos : Pos} {t t1 t2 : Nat} {b1 b2 : Bool} (p : PV K cs cl m nw e1 t (.bool b1) t1) (q : PV K cs cl m nw (.BoolOp .Or (e2 :: rest) pos) t1 (.bool b2) t2) : PV K cs cl m nw (.BoolOp .Or (e1 :: e2 :: rest) pos) t (.bool (b1 || b2)) (cond b1 t1 t2)
  | andB {e1 e2 : Expr} {rest : List Expr} {pos : Pos} {t t1 t2 : Nat} {b1 b2 : Bool} (p : PV K cs cl m nw e1 t (.bool b1) t1) (q : PV K cs cl m nw (.BoolOp .And (e2 :: rest) pos) t1 (.bool b2) t2) : PV K cs cl m nw (.BoolOp .And (e1 :: e2 :: rest) pos) t (.bool (b1 && b2)) (cond b1 t2 t1)
  | orT {e1 e2 : Expr} {rest : List Expr} {pos : Pos} {t t1 : Nat} (p : PV K cs cl m nw e1 t (.bool true) t1) : PV K cs cl m nw (.BoolOp .Or (e1 :: e2 :: rest) pos) t (.bool true) t1
  | andF {e1 e2 : Expr} {rest : List Expr} {pos : Pos} {t t1 : Nat} (p : PV K cs cl m nw e1 t (.bool false) t1) : PV K cs cl m nw (.BoolOp .And (e1 :: e2 :: rest) pos) t (.bool false) t1
  | one {op : BoolOp} {e : Expr} {pos : Pos} {t t1 : Nat} {v : Value} (p : PV K cs cl m nw e t v t1) : PV K cs cl m nw (.BoolOp op [e] pos) t v t1
  | len {e : Expr} {fp pos : Pos} {t t1 : Nat} {D : Addr} {vs : List Value} {n : Nat} (hx : globOk cs (Str.ofString "len") = true) (hv : nsIn K mainGlobals (Str.ofString "len") = some none) (p : PV K cs cl m nw e t (.ref D) t1) (hm : (D, listOf vs.toArray n) ∈ nw) (hz : vs.length ≤ 1000) :
      PV K cs cl m nw (.Call (.Name (Str.ofString "len") fp) [e] [] pos) t (.int (vs.length : Int) (t1 + 1)) (t1 + 1 + 1)
inductive PVs (K : Frag) (cs : Scope) (cl : List (Str × Addr)) (m : Str → Option Value) (nw : List (Addr × Obj)) : List Expr → Nat → List Value → Nat → Prop
  | nil {t : Nat} : PVs K cs cl m nw [] t [] t
  | cons {e : Expr} {es : List Expr} {t t1 t2 : Nat} {v : Value} {vs : List Value} (p : PV K cs cl m nw e t v t1) (q : PVs K cs cl m nw es t1 vs t2) : PVs K cs cl m nw (e :: es) t (v :: vs) t2
section
variable {prog : Program} {w : World} {A : Around} {E : Value → Shared → Prop} {s : Shared} {K : Frag} {h₀ : Heap} {L : Addr} {m mg mb : Str → Option Value} {env : Env} {cs : Scope} {cl : List (Str × Addr)} {p : Program} {loose : List Str} {nw : List (Addr × Obj)} {t' : Nat} {v : Value} {e : Expr}
theorem PV.plain {t : Nat} {v : Value} (P : PV K cs cl m nw e t v t') : (∀ (es : List Expr) (env : Env), starEach (e :: es) env = (false, eval e env) :: starEach es env) ∧ (∀ (D : Addr) (k : Int) (u : Tok), subscripted e false (.ref D) (.int k u) = operate [.ref D, .int k u] (getItem (.ref D) (.int k u))) ∧ (∀ (tgt : Option Expr) (line : Nat) (env : Env), swapsWith e tgt line env = Pure.pure false) ∧
    ∀ (o : Addr), v = .ref o → ∀ (at_ : Str) (pos : Pos) (env : Env), eval (.Attribute e at_ pos) env = (do
      let o ← eval e env
      standAt pos.atName
      let r ← holding [o] (getAttr o at_ true)
      letTemporaryGo e o r
      Pure.pure r) := by
  cases P <;> exact ⟨fun _ _ => rfl, fun _ _ _ => rfl, fun _ _ _ => rfl, fun _ h _ _ _ => by first | with_unfolding_all rfl | cases h⟩
theorem plain_ix {e : Expr} {t : Nat} {D : Addr} {k : Int} {u : Tok} {v : Value} (P : PV K cs cl m nw e t v t') : subscripted e false (.ref D) (.int k u) = operate [.ref D, .int k u] (getItem (.ref D) (.int k u)) := P.plain.2.1 D k u
theorem plain_at {t : Nat} {o : Addr} {at_ : Str} {pos : Pos} (P : PV K cs cl m nw e t (.ref o) t') : eval (.Attribute e at_ pos) env = (do
      let o ← eval e env
      standAt pos.atName
      let r ← holding [o] (getAttr o at_ true)
      letTemporaryGo e o r
      Pure.pure r) := P.plain.2.2.2 o rfl at_ pos env
theorem plain_star {x : Expr} {es : List Expr} {t t1 : Nat} (P : PV K cs cl m nw x t v t1) : starEach (x :: es) env = (false, eval x env) :: starEach es env := P.plain.1 es env
theorem nameE_L {s : Shared} {Q E : Value → Shared → Prop} {x : Str} {pos : Pos} (eo : EnvOk env cs L cl) (F : Fr h₀ L s.heap m) (hv : m x = some v) (h : Q v s) (hx : locOk cs x = true) : wpAny (model prog w) A (eval (.Name x pos) env) Q E s := by
  obtain ⟨e1, e2, e3, e4, e5⟩ := eo
  obtain ⟨h1, h2, h3⟩ := locOk_inv hx
  subst e1 e2
  exact wpAny_Name (wpAny_loadName_local h1 h2 F.ns hv h) h3
theorem nameE_C {s : Shared} {Q E : Value → Shared → Prop} {x : Str} {pos : Pos} {a : Addr} {o : Obj} (eo : EnvOk env cs L cl) (N : News h₀ L s.heap nw) (hc : cl.lookup x = some a) (hm : (a, o) ∈ nw) (hd : o.data = .cell (some v)) (h : Q v s) (hx : rdOk cs x = true) : wpAny (model prog w) A (eval (.Name x pos) env) Q E s := by
  obtain ⟨e1, e2, e3, e4, e5⟩ := eo
  obtain ⟨h1, h2, h3⟩ := rdOk_inv hx
  subst e1 e5
  rcases h2 with h2 | ⟨h2, h4⟩
  · exact wpAny_Name (wpAny_loadName_cell h1 h2 hc ⟨o, N.get hm, hd⟩ h) h3
  · exact wpAny_Name (wpAny_loadName_free h1 h2 hc ⟨o, N.get hm, hd⟩ h h4) h3
theorem nameE_K {s : Shared} {Q E : Value → Shared → Prop} {x : Str} {pos : Pos} (eo : EnvOk env cs L cl) (F : Fr h₀ L s.heap m) (X : K.In h₀) (T : TopRead p loose mg mb h₀) (e : nsIn K mainGlobals x = some (some v)) (h : Q v s) (hx : globOk cs x = true) : wpAny (model prog w) A (eval (.Name x pos) env) Q E s := by
  obtain ⟨e1, e2, e3, e4, e5⟩ := eo
  obtain ⟨h1, h2, h3⟩ := globOk_inv hx
  subst e1
  exact nameG_K F X T e h e3 h1 h2 h3
theorem nameE_B {s : Shared} {Q E : Value → Shared → Prop} {x : Str} {pos : Pos} (eo : EnvOk env cs L cl) (F : Fr h₀ L s.heap m) (X : K.In h₀) (T : TopRead p loose mg mb h₀) (e : nsIn K mainGlobals x = some none) (hv : bootBuiltins x = some v) (hn : x ≠ "__name__") (h : Q v s) (hx : globOk cs x = true) : wpAny (model prog w) A (eval (.Name x pos) env) Q E s := by
  obtain ⟨e1, e2, e3, e4, e5⟩ := eo
  obtain ⟨h1, h2, h3⟩ := globOk_inv hx
  subst e1
  exact Name_function_global h1 h2 (loadGlobal_builtin (by rw [e3]; exact T.g.keeps F.keep) (mg_none_of X T.g e) (by rw [e4]; exact T.b.keeps F.keep) ((T.builtins x hn).trans hv) h) h3
theorem storeE_L {s : Shared} {Q : Unit → Shared → Prop} {E : Value → Shared → Prop} {x : Str} (eo : EnvOk env cs L cl) (F : Fr h₀ L s.heap m) (N : News h₀ L s.heap nw)
    (h : ∀ h', Fr h₀ L h' (fun y => if y = x then some v else m y) → News h₀ L h' nw → Q () { s with heap := h', toks := s.toks + 1 }) (hx : locOk cs x = true) : wpAny (model prog w) A (storeName env x v) Q E s := by
  obtain ⟨e1, e2, e3, e4, e5⟩ := eo
  obtain ⟨h1, h2, h3⟩ := locOk_inv hx
  subst e1 e2
  exact wpAny_storeName_local h2 F.ns (fun h' hn hs => h h' (F.set hn hs) (N.set hs)) (by rw [h1]; rfl)
theorem PV.sound {t : Nat} (eo : EnvOk env cs L cl) (P : PV K cs cl m nw e t v t') : ∀ {s : Shared} {Q : Value → Shared → Prop} {E : Value → Shared → Prop} (_ : s.toks = t) (_F : Fr h₀ L s.heap m) (_X : K.In h₀) (_T : TopRead p loose mg mb h₀) (_N : News h₀ L s.heap nw) (_h : Q v { s with toks := t' }), wpAny (model prog w) A (eval e env) Q E s := by
  induction P with
  | loc hx hv =>
    intro s Q E ht F X T N h
    subst ht
    exact nameE_L eo F hv h hx
  | cell hx hc hm hd =>
    intro s Q E ht F X T N h
    subst ht
    exact nameE_C eo N hc hm hd h hx
  | glob hx hv =>
    intro s Q E ht F X T N h
    subst ht
    exact nameE_K eo F X T hv h hx
  | int => intro s Q E ht F X T N h; subst ht; exact wpAny_Constant_int h
  | str => intro s Q E ht F X T N h; subst ht; exact Constant_str h
  | bool => intro s Q E ht F X T N h; subst ht; exact Constant_bool h
  | none => intro s Q E ht F X T N h; subst ht; exact Constant_none h
  | attr p I ha hl hh ih =>
    intro s Q E ht F X T N h
    subst ht
    obtain ⟨dx, es, n, b, g1, g2, g3⟩ := I
    unfold attrOk at ha
    rw [Bool.and_eq_true, Bool.and_eq_true] at ha
    obtain ⟨⟨a1, a2⟩, a3⟩ := ha
    rename_i e1 pos1 a1' t1 t2 o C f v
    split at a3
    · rename_i r hr
      exact Attribute_any_ (ih rfl F X T N (get_own (s := { s with toks := t2 }) F X (InstAt.of_news N g1 g2) a1 a2 hr a3 (by rw [g3.1, hl]) hh h)) (plain_at p)
    · cases a3
  | neg =>
    intro s Q E ht F X T N h
    subst ht
    exact UnaryOp_ (wpAny_Constant_int (neg_int h))
  | sub p q hi ih1 ih2 =>
    intro s Q E ht F X T N h
    subst ht
    rename_i t1 t2 D k u v
    refine Subscript_ (ih1 rfl F X T N (ih2 (s := { s with toks := t1 }) rfl F X T N ?_))
    rcases hi with ⟨vs, n, hm, h0, h1, hx⟩ | ⟨vs, n, j, hm, h0, h1, hj, hx⟩
    · exact item_led N hm h0 h1 hx h (plain_ix q)
    · exact item_tup N hm h0 h1 hj hx h (plain_ix q)
  | cmp hm p q hc ih1 ih2 =>
    intro s Q E ht F X T N h
    subst ht
    rename_i l r op pos t1 t2 u v b
    exact wpAny_Compare1 (ih1 rfl F X T N (ih2 (s := { s with toks := t1 }) rfl F X T N (hc.sound h))) hm
  | bin p q hb ih1 ih2 =>
    intro s Q E ht F X T N h
    subst ht
    rename_i l r op pos t1 t2 a b d u v
    exact wpAny_BinOp (ih1 rfl F X T N (ih2 (s := { s with toks := t1 }) rfl F X T N (hb.sound (s := { s with toks := t2 }) h)))
  | orB p q ih1 ih2 =>
    intro s Q E ht F X T N h
    subst ht
    rename_i e1 e2 rest pos t1 t2 b1 b2
    refine BoolOp_or (ih1 rfl F X T N (wpAny_truthy_bool ?_))
    cases b1
    · exact ih2 (s := { s with toks := t1 }) rfl F X T N h
    · exact h
  | andB p q ih1 ih2 =>
    intro s Q E ht F X T N h
    subst ht
    rename_i e1 e2 rest pos t1 t2 b1 b2
    refine BoolOp_and (ih1 rfl F X T N (wpAny_truthy_bool ?_))
    cases b1
    · exact h
    · exact ih2 (s := { s with toks := t1 }) rfl F X T N h
  | orT p ih => intro s Q E ht F X T N h; subst ht; exact BoolOp_or (ih rfl F X T N (wpAny_truthy_bool h))
  | andF p ih => intro s Q E ht F X T N h; subst ht; exact BoolOp_and (ih rfl F X T N (wpAny_truthy_bool h))
  | one p ih => intro s Q E ht F X T N h; exact BoolOp_one (ih ht F X T N h)
  | len hx hv p hm hz ih =>
    intro s Q E ht F X T N h
    subst ht
    rename_i e fp pos t1 D vs n
    refine Call_ (nameE_B eo F X T hv boot_len (by decide) (callWith_builtin1 (args_cons (ih rfl F X T N (args_nil (call_len_list (s := { s with toks := t1 }) (PySem.IsL.isList (n := n) (N _ hm).1) (by simp; omega) (by simpa using h)))) ?_) ?_) hx)
    · cases p <;> rfl
    · cases p <;> rfl
theorem PVs.sound {es : List Expr} {t : Nat} {vs : List Value} (eo : EnvOk env cs L cl) (P : PVs K cs cl m nw es t vs t') : ∀ {s : Shared} {Q : List Value → Shared → Prop} {E : Value → Shared → Prop} {pos : Pos} (_ : s.toks = t) (_F : Fr h₀ L s.heap m) (_X : K.In h₀) (_T : TopRead p loose mg mb h₀) (_N : News h₀ L s.heap nw) (_h : Q vs { s with toks := t' }), wpAny (model prog w) A (spliced (backTo pos (starEach es env))) Q E s := by
  induction P with
  | nil => intro s Q E pos ht F X T N h; subst ht; exact args_nil h
  | cons P q ih =>
    intro s Q E pos ht F X T N h
    exact args_cons (P.sound eo ht F X T N (ih rfl F X T N h)) (plain_star P)
theorem args_pure {es : List Expr} {vs : List Value} {pos : Pos} {Q : List Value → Shared → Prop} (eo : EnvOk env cs L cl) (F : Fr h₀ L s.heap m) (X : K.In h₀) (T : TopRead p loose mg mb h₀) (N : News h₀ L s.heap nw) (P : PVs K cs cl m nw es s.toks vs t') (h : Q vs { s with toks := t' }) :
    wpAny (model prog w) A (spliced (backTo pos (starEach es env))) Q E s := P.sound eo rfl F X T N h
theorem plain_any {es : List Expr} {t : Nat} {vs : List Value} {pos : Pos} (P : PVs K cs cl m nw es t vs t') : (backTo pos (starEach es env)).any (·.1) = false := by
  induction P with
  | nil => rfl
  | cons P q ih =>
    rw [plain_star P]
    unfold backTo at ih ⊢
    simpa using ih
theorem callWith_pure {es : List Expr} {vs first : List Value} {pos : Pos} {f : Value} {Q : Value → Shared → Prop} (eo : EnvOk env cs L cl) (F : Fr h₀ L s.heap m) (X : K.In h₀) (T : TopRead p loose mg mb h₀) (N : News h₀ L s.heap nw) (hk : keepIn K f = true) (P : PVs K cs cl m nw es s.toks vs t') (h : wpAny (model prog w) A (call f (first ++ vs)) Q E { s with toks := t' }) :
    wpAny (model prog w) A (callWith pos f first (backTo pos (starEach es env)) []) Q E s := by
  cases P with
  | nil => exact callWith_K0 (X.keeps F.keep) hk h
  | cons P q => exact callWith_K X hk (args_pure eo F X T N (PVs.cons P q) ⟨X.keeps F.keep, h⟩) (plain_star P) (plain_any q)
theorem call_pure {es : List Expr} {vs : List Value} {x : Str} {xp pos : Pos} {f : Value} {Q : Value → Shared → Prop} (eo : EnvOk env cs L cl) (F : Fr h₀ L s.heap m) (X : K.In h₀) (T : TopRead p loose mg mb h₀) (N : News h₀ L s.heap nw) (hx : globOk cs x = true) (e : nsIn K mainGlobals x = some (some f)) (hk : keepIn K f = true) (P : PVs K cs cl m nw es s.toks vs t') (h : wpAny (model prog w) A (call f vs) Q E { s with toks := t' }) :
    wpAny (model prog w) A (eval (.Call (.Name x xp) es [] pos) env) Q E s := by
  exact Call_ (nameE_K eo F X T e (callWith_pure eo F X T N hk P h) hx)
theorem cmp_pure {l r : Expr} {op : CmpOp} {u v : Value} {t1 : Nat} {pos : Pos} {whole : Sem Value} {Q : Bool → Shared → Prop} (eo : EnvOk env cs L cl) (F : Fr h₀ L s.heap m) (X : K.In h₀) (T : TopRead p loose mg mb h₀) (N : News h₀ L s.heap nw) (P : PV K cs cl m nw l s.toks u t1) (R : PV K cs cl m nw r t1 v t') (hm : behindInMarks op r = false)
    (h : wpAny (model prog w) A (compareOp op u v) (fun c s₃ => wpAny (model prog w) A (truthy c) Q E s₃) E { s with toks := t' }) :
    wpAny (model prog w) A (isTrue (.Compare l [op] [r] pos) env whole) Q E s :=
  wpAny_isTrue_Compare1 (P.sound eo rfl F X T N (R.sound (s := { s with toks := t1 }) eo rfl F X T N h)) hm
end
end
section
theorem swaps_pv {K : Frag} {cs : Scope} {m : Str → Option Value} {nw : List (Addr × Obj)} {e : Expr} {t t' : Nat} {v : Value} {tgt : Option Expr} {line : Nat} {env : Env} {cl : List (Str × Addr)} (P : PV K cs cl m nw e t v t') : swapsWith e tgt line env = pure false := P.plain.2.2.1 tgt line env
noncomputable def setOk (K : Frag) (C : Addr) (a : Str) : Bool := findIn K (.ref C) "__setattr__" == some (some (.builtin "object.__setattr__")) && plainOver K C && (match takerIn K C a with | some none => true | _ => false) && hasDictIn K C
theorem setOk_inv {K : Frag} {C : Addr} {a : Str} (h : setOk K C a = true) : findIn K (.ref C) "__setattr__" = some (some (.builtin "object.__setattr__")) ∧ plainOver K C = true ∧ takerIn K C a = some none ∧ hasDictIn K C = true := by
  unfold setOk at h
  rw [Bool.and_eq_true, Bool.and_eq_true, Bool.and_eq_true] at h
  obtain ⟨⟨⟨h1, h2⟩, h3⟩, h4⟩ := h
  refine ⟨beq_iff_eq.mp h1, h2, ?_, h4⟩
  split at h3
  · assumption
  · cases h3
inductive PI (K : Frag) (cs : Scope) (m : Str → Option Value) (o C : Addr) : List Stmt → Nat → (Str → Option Value) → (Str → Option Value) → Nat → Prop
  | nil {t : Nat} {f : Str → Option Value} : PI K cs m o C [] t f f t
  | cons {e : Expr} {x name : Str} {xp pos' pos : Pos} {rest : List Stmt} {t t1 t2 : Nat} {v : Value} {f f' : Str → Option Value} (p : PV K cs [] m [] e t v t1) (hv : m x = some (.ref o)) (hx : locOk cs x = true) (hs : setOk K C name = true)
      (q : PI K cs m o C rest (t1 + 2) (fun y => if y = name then some v else f y) f' t2) : PI K cs m o C (.Assign [.Attribute (.Name x xp) name pos'] e pos :: rest) t f f' t2
section
variable {prog : Program} {w : World} {A : Around} {K : Frag} {h₀ : Heap} {L a : Addr} {m mg mb : Str → Option Value} {cn : Str} {cs : Scope} {ccd : Value} {p : Program} {loose : List Str} {nw : List (Addr × Obj)} {o C dx : Addr}
theorem PI.run {body : List Stmt} {t t' : Nat} {f f' : Str → Option Value} (P : PI K cs m o C body t f f' t') : ∀ {s : Shared} {Q : Flow → Shared → Prop} {E : Value → Shared → Prop} {es : List DictEntry} {n b : Nat} (_ : s.toks = t) (_F : Fr h₀ L s.heap m) (_X : K.In h₀) (_T : TopRead p loose mg mb h₀) (_N : News h₀ L s.heap ((o, instObj C dx) :: (dx, dictOf es n) :: nw)) (_hd : ∀ q ∈ nw, q.1 ≠ dx) (_ho : o ≠ dx) (_f : Flds es f b) (_hb : b + body.length ≤ 900)
    (_h : ∀ h' es' n', Fr h₀ L h' m → News h₀ L h' ((o, instObj C dx) :: (dx, dictOf es' n') :: nw) → Flds es' f' (b + body.length) → Q .next { s with heap := h', toks := t' }), wpAny (model prog w) A (execs body (envX cn cs L a ccd [])) Q E s := by
  induction P with
  | nil =>
    intro s Q E es n b ht F X T N hd ho hf hb h
    subst ht
    exact wpAny_execs_nil (h _ _ _ F N hf)
  | cons q hv hx hs r ih =>
    intro s Q E es n b ht F X T N hd ho hf hb h
    obtain ⟨q1, q2, q3⟩ := locOk_inv hx
    obtain ⟨s1, s2, s3, s4⟩ := setOk_inv hs
    rw [List.length_cons] at hb
    rename_i x0 name xp pos' pos rest t1 t2 t3 v f0 f1
    have f3 := flds_put (name := name) (hsh := PyData.keyHash w.params name) (t := t2 + 1) (v := v) hf
    refine wpAny_execs_cons (plainObj_wpAny_Assign_Attribute (q.sound ⟨rfl, rfl, rfl, rfl, rfl⟩ ht F X T (fun p hp => nomatch hp) (nameX_L F hv ?_ q1 q2 q3)) (swaps_pv q))
    refine set_dict (es' := putL name (PyData.keyHash w.params name) (.str name (t2 + 1)) v es) (n' := putN name es n) (news' := (o, instObj C dx) :: (dx, dictOf (putL name (PyData.keyHash w.params name) (.str name (t2 + 1)) v es) (putN name es n)) :: nw) F X N (InstAt.of_news N (.head _) (.tail _ (.head _))) rfl s1 s2 s3 s4 (by rw [hf.1]; rfl) rfl ?_ (Nat.le_trans f3.2 (by omega)) fun h' F' N' => ?_
    · exact upd_app (own := [(o, instObj C dx)]) hd (fun p hp => by cases hp with | head => exact ho | tail _ hp => cases hp)
    · exact ih (s := { s with heap := h', toks := t2 + 2 }) rfl F' X T N' hd ho f3 (by omega) (fun h2 es2 n2 F2 N2 g2 => h h2 es2 n2 F2 N2 (by rw [List.length_cons, show b + (rest.length + 1) = b + 1 + rest.length from by omega]; exact g2))
end
section
variable {prog : Program} {w : World} {p : Program} {loose : List Str} {mean : ExcName → Option Value} {mg mb : Str → Option Value} {dp un : Nat} {gd : Option (List Code)} {cn : Str} {cs : Scope} {ca : Addr} {ccd : Value} {cl : List (Str × Addr)} {outer : List Env} {A₀ : Around} {base h₀ : Heap} {L : Addr} {m : Str → Option Value} {nw : List (Addr × Obj)} {s : Shared} {Q E : Value → Shared → Prop}
theorem ctor_c {C fI : Addr} {vs : List Value} {name qual : Str} {params : Arguments} {body : List Stmt} {scope : Scope} {dV kV doc pm cdv ct oc : Value} {an od : Option Addr} {osl : Array (Option Value)} {bs : Addr → List (Str × Value)} {f : Str → Option Value} {t' : Nat}
    (S : St w p loose mean mg mb A₀ base outer h₀ L m s nw) (hk : cs.kind = .function)
    (hm : makesIn (gk.heap_1 w.params) C = true) (hi : findIn (gk.heap_1 w.params) (.ref C) "__init__" = some (some (.ref fI))) (hf : isFn (gk.heap_1 w.params) (.ref fI) = true)
    (ho : (gk.heap_1 w.params).lookup fI = some ⟨oc, od, .func (fnOf name qual params body scope dV kV doc pm an cdv ct), osl⟩) (hcd : codeIn (gk.heap_1 w.params) cdv qual = true) (hdp : dp + 1 < recursionLimit)
    (hbind : ∀ x s, BindsTo s (fnOf name qual params body scope dV kV doc pm an cdv ct) ⟨.ref x :: vs, []⟩ (bs x)) (hloc : ∀ x, ∀ y ∈ bs x, scope.names.lookup y.1 = some .local) (hlen : ∀ x, (bs x).length = vs.length + 1)
    (hco : scope.isCoroutine = false) (hgen : scope.isGenerator = false) (hkk : scope.kind = .function) (hcell : ∀ x ∈ scope.names, x.2 ≠ .cell) (hbl : body.length ≤ 900)
    (P : ∀ x, PI (gk.heap_1 w.params) scope (fun y => (bs x).reverse.lookup y) x C body (s.toks + (vs.length + 1)) (fun _ => none) f t')
    (ret : ∀ x dx es n h', Fr h₀ L h' m → News h₀ L h' ((x, instObj C dx) :: (dx, dictOf es n) :: nw) → (∀ q ∈ nw, q.1 < dx) → dx < x → Flds es f body.length → Q (.ref x) { s with heap := h', toks := t' }) :
    wpAny (model prog w) (ktrTop dp un gd cn cs L ca ccd cl outer) (call (.ref C) vs) Q E s := by
  obtain ⟨B, F, X, N, T⟩ := S
  refine call_cls F X N hm hi hf fun x dx h1 F1 N1 l1 l2 => ?_
  refine PySem.W.code_def (A₀ := A₀) (base := base) (env := envX cn cs L ca ccd cl) (outer := outer) B F1 X N1 T rfl rfl hk ho hcd ?_ (hbind x _) (hloc x) ?_ hco hgen hkk hcell
  · show dp + 1 < recursionLimit
    exact hdp
  · intro g L' h2 FG F2 N2 B2 X2 T2
    refine (P x).run (hlen x ▸ rfl) F2 X2 (topRead_of T2) N2 (fun q hq => Nat.ne_of_lt (l1 q hq)) (Nat.ne_of_gt l2) flds_nil (by omega) fun h' es' n' F' N' f' => ?_
    refine leaveK_ F' N' fun kF kN => ?_
    exact ⟨rfl, ret _ _ _ _ _ kF kN l1 l2 (by rw [Nat.zero_add] at f'; exact f')⟩
end
end
section
noncomputable abbrev Led := List (Addr × Obj)
noncomputable abbrev Lc := Str → Option Value
set_option genInjectivity false in
structure Cx where
  prog : Program
  w : World
  p : Program
  loose : List Str
  mean : ExcName → Option Value
  mg : Str → Option Value
  mb : Str → Option Value
  A₀ : Around
  base : Heap
  outer : List Env
  dp : Nat
  un : Nat
  gd : Option (List Code)
  cn : Str
  ca : Addr
  ccd : Value
  cl : List (Str × Addr)
  h₀ : Heap
  L : Addr
  fsc : Option Scope
  fL : Addr
  fcl : List (Str × Addr)
  fn : Option Addr
  B : Below A₀ base outer h₀
  X : (gk.heap_1 w.params).In h₀
  T : Top p loose mean mg mb h₀
  G : Led → Prop
  H : Led → Prop
  fw : (fsc = none ∧ fL = L ∧ fcl = cl) ∨ ∃ s mf, fsc = some s ∧ s.kind = .function ∧ h₀.objs.size ≤ fL ∧ ∀ l, H l → ∃ o l0, l = (fL, o) :: l0 ∧ LCg.NsObj o mf ∧ (∀ p ∈ l0, p.1 ≠ fL) ∧ ∀ o', LCg.NsObj o' mf → H ((fL, o') :: l0)
@[reducible] noncomputable def Cx.A (c : Cx) (sc : Scope) : Around := ktrTop c.dp c.un c.gd c.cn (c.fsc.getD sc) c.fL c.ca c.ccd c.fcl c.outer
@[reducible] noncomputable def Cx.env (c : Cx) (sc : Scope) : Env := { scope := sc, locals := c.L, globals := mainGlobals, cells := c.cl, qual := c.cn ++ ".<locals>.", func := c.fn, code := c.ccd, frame := some c.fL, builtins := builtinsNs }
theorem Cx.ok {c : Cx} {sc : Scope} : EnvOk (c.env sc) sc c.L c.cl := ⟨rfl, rfl, rfl, rfl, rfl⟩
noncomputable def Cx.HG (c : Cx) (gh : Led) : Prop := ∃ g l, c.G g ∧ c.H l ∧ gh = g ++ l ∧ ∀ p ∈ g, ∀ q ∈ l, p.1 ≠ q.1
noncomputable def Cx.Iv (c : Cx) (h : Heap) (nw : Led) : Prop := ∃ g, c.HG g ∧ News c.h₀ c.L h (g ++ nw) ∧ ∀ p ∈ g, ∀ q ∈ nw, p.1 ≠ q.1
theorem Cx.view {c : Cx} {sc : Scope} {h : Heap} {m : Lc} {nw : Led} (hk : sc.kind = .function) (F : Fr c.h₀ c.L h m) (I : c.Iv h nw) :
    ∃ (mf : Lc) (g Hf : Led), (c.fsc.getD sc).kind = .function ∧ Fr c.h₀ c.fL h mf ∧ c.G g ∧ (∀ p ∈ g, ∀ q ∈ Hf, p.1 ≠ q.1) ∧ News c.h₀ c.fL h ((g ++ Hf) ++ nw) ∧ (∀ p ∈ g ++ Hf, ∀ q ∈ nw, p.1 ≠ q.1) ∧
      ∀ h' g' nw', Fr c.h₀ c.fL h' mf → c.G g' → (∀ p ∈ g', ∀ q ∈ Hf, p.1 ≠ q.1) → News c.h₀ c.fL h' ((g' ++ Hf) ++ nw') → (∀ p ∈ g' ++ Hf, ∀ q ∈ nw', p.1 ≠ q.1) → Fr c.h₀ c.L h' m ∧ c.Iv h' nw' := by
  obtain ⟨gh, ⟨g, l, hg, hl, rfl, hd⟩, N, hne⟩ := I
  rcases c.fw with ⟨e1, e2, e3⟩ | ⟨s, mf, e1, hs, ha, hH⟩
  · rw [e1, e2]
    exact ⟨m, g, l, hk, F, hg, hd, N, hne, fun h' g' nw' F' hg' hd' N' hne' => ⟨F', _, ⟨g', l, hg', hl, rfl, hd'⟩, N', hne'⟩⟩
  · obtain ⟨o, l0, rfl, hns, h0, hH'⟩ := hH l hl
    obtain ⟨oL, eL, nL⟩ := LCg.ns_obj F.ns
    have q1 := N (c.fL, o) (ml (mr (.head _)))
    have hLn : c.h₀.get? c.L = none := Heap.get?_none_of_le F.above
    have hl0 : ∀ p ∈ l0, p ∈ (g ++ (c.fL, o) :: l0) ++ nw := fun p hp => ml (mr (.tail _ hp))
    rw [e1]
    refine ⟨mf, g, (c.L, oL) :: l0, hs, ⟨hns.ns q1.1, F.keep, ha⟩, hg, fun p hp q hq => ?_, fun p hp => ?_, fun p hp q hq => ?_, fun h' g' nw' F' hg' hd' N' hne' => ?_⟩
    · rcases List.mem_cons.mp hq with rfl | hq
      · exact (N p (ml (ml hp))).2.1
      · exact hd p hp q (.tail _ hq)
    · rcases List.mem_append.mp hp with hp | hp
      · rcases List.mem_append.mp hp with hp | hp
        · exact ⟨(N p (ml (ml hp))).1, hd p hp _ (.head _), (N p (ml (ml hp))).2.2⟩
        · rcases List.mem_cons.mp hp with rfl | hp
          · exact ⟨eL, fun e => q1.2.1 e.symm, hLn⟩
          · exact ⟨(N p (hl0 p hp)).1, h0 p hp, (N p (hl0 p hp)).2.2⟩
      · exact ⟨(N p (mr hp)).1, (hne _ (mr (.head _)) p hp).symm, (N p (mr hp)).2.2⟩
    · rcases List.mem_append.mp hp with hp | hp
      · exact hne p (ml hp) q hq
      · rcases List.mem_cons.mp hp with rfl | hp
        · exact (N q (mr hq)).2.1.symm
        · exact hne p (mr (.tail _ hp)) q hq
    · obtain ⟨o', eo', no'⟩ := LCg.ns_obj F'.ns
      have z := N' (c.L, oL) (ml (mr (.head _)))
      refine ⟨⟨nL.ns z.1, F'.keep, F.above⟩, _, ⟨g', (c.fL, o') :: l0, hg', hH' o' no', rfl, fun p hp q hq => ?_⟩, fun p hp => ?_, fun p hp q hq => ?_⟩
      · rcases List.mem_cons.mp hq with rfl | hq
        · exact (N' p (ml (ml hp))).2.1
        · exact hd' p hp q (.tail _ hq)
      · rcases List.mem_append.mp hp with hp | hp
        · rcases List.mem_append.mp hp with hp | hp
          · exact ⟨(N' p (ml (ml hp))).1, hd' p hp _ (.head _), (N' p (ml (ml hp))).2.2⟩
          · rcases List.mem_cons.mp hp with rfl | hp
            · exact ⟨eo', q1.2.1, q1.2.2⟩
            · exact ⟨(N' p (ml (mr (.tail _ hp)))).1, (N p (hl0 p hp)).2.1, (N p (hl0 p hp)).2.2⟩
        · exact ⟨(N' p (mr hp)).1, (hne' _ (mr (.head _)) p hp).symm, (N' p (mr hp)).2.2⟩
      · rcases List.mem_append.mp hp with hp | hp
        · exact hne' p (ml hp) q hq
        · rcases List.mem_cons.mp hp with rfl | hp
          · exact (N' q (mr hq)).2.1.symm
          · exact hne' p (mr (.tail _ hp)) q hq
noncomputable def NoE : Value → Shared → Prop := fun _ _ => False
noncomputable def Go {α : Type} (sc : Scope) (c : Cx) (x : Sem α) (m : Lc) (nw : Led) (t : Nat) (R : α → Lc → Led → Nat → Prop) : Prop :=
  ∀ (s : Shared) (Q : α → Shared → Prop), sc.kind = .function → s.toks = t → Fr c.h₀ c.L s.heap m → c.Iv s.heap nw →
    (∀ a h' m' nw' t', Fr c.h₀ c.L h' m' → c.Iv h' nw' → R a m' nw' t' → Q a { s with heap := h', toks := t' }) → wpAny (model c.prog c.w) (c.A sc) x Q NoE s
noncomputable def Keep (d : Addr) (o : Obj) (nw nw' : Led) : Prop := ∀ p ∈ nw, (p.1 ≠ d ∨ p.2 ≠ o) → p ∈ nw'
noncomputable def KeepA (d : Addr) (nw nw' : Led) : Prop := ∀ p ∈ nw, p.1 ≠ d → p ∈ nw'
noncomputable def Sub (nw nw' : Led) : Prop := ∀ p ∈ nw, p ∈ nw'
noncomputable def Abv (nw : Led) (d : Addr) : Prop := ∀ p ∈ nw, p.1 < d
noncomputable def Up1 (m m' : Lc) (x : Str) (v : Value) : Prop := m' x = some v ∧ ∀ y, y ≠ x → m' y = m y
noncomputable def prm (ps : Arguments) (vs : List Value) : Lc := fun y => ((ps.args.map fun x => x.arg).zip vs).reverse.lookup y
theorem loc0 {m0 : Lc} {ps : Arguments} {vs : List Value} {x : Str} {v : Value} (h : m0 = prm ps vs) (e : prm ps vs x = some v) : m0 x = some v := h ▸ e
theorem Up1.at {m m' : Lc} {x : Str} {v : Value} (h : Up1 m m' x v) : m' x = some v := h.1
theorem Up1.skip {m m' : Lc} {x y : Str} {v : Value} {u : Option Value} (h : Up1 m m' x v) (hn : (y == x) = false) (e : m y = u) : m' y = u := (h.2 y (by simpa using hn)).trans e
theorem up1_mk {m : Lc} {x : Str} {v : Value} : Up1 m (fun y => if y = x then some v else m y) x v := ⟨if_pos rfl, fun _ h => if_neg h⟩
theorem Cx.Iv.push {c : Cx} {h' : Heap} {nw : Led} {D : Addr} {o : Obj} {g : Led} (hG : c.HG g) (hne : ∀ p ∈ g, ∀ q ∈ nw, p.1 ≠ q.1) (N : News c.h₀ c.L h' ((D, o) :: (g ++ nw))) (hl : ∀ p ∈ g ++ nw, p.1 < D) : c.Iv h' ((D, o) :: nw) := by
  refine ⟨g, hG, KStb.news_of N fun p hp => ?_, fun p hp q hq => ?_⟩
  · rcases List.mem_append.mp hp with hp | hp
    · exact .tail _ (List.mem_append_left _ hp)
    · cases hp with
      | head => exact .head _
      | tail _ hp => exact .tail _ (List.mem_append_right _ hp)
  · cases hq with
    | head => exact Nat.ne_of_lt (hl p (List.mem_append_left _ hp))
    | tail _ hq => exact hne p hp q hq
section
variable {α β : Type} {sc : Scope} {c : Cx} {m : Lc} {nw : Led} {t t' : Nat}
theorem Go.weak {x : Sem α} {nw' : Led} {R : α → Lc → Led → Nat → Prop} (hs : Sub nw' nw) (h : Go sc c x m nw' t R) : Go sc c x m nw t R := by
  intro s Q hk ht F I k
  obtain ⟨g, hG, N, hne⟩ := I
  refine h s Q hk ht F ⟨g, hG, KStb.news_of N fun p hp => ?_, fun p hp q hq => hne p hp q (hs q hq)⟩ k
  rcases List.mem_append.mp hp with hp | hp
  · exact List.mem_append_left _ hp
  · exact List.mem_append_right _ (hs p hp)
theorem Go.ev {e : Expr} {v : Value} {R : Value → Lc → Led → Nat → Prop} (P : PV (gk.heap_1 c.w.params) sc c.cl m nw e t v t') (h : R v m nw t') : Go sc c (eval e (c.env sc)) m nw t R := by
  intro s Q hk ht F I k
  have I9 := I
  obtain ⟨g, hG, N, hne⟩ := I
  refine P.sound c.ok ht F (c.X) (topRead_of c.T) (KStb.news_of N fun p hp => List.mem_append_right _ hp) (k _ s.heap _ _ _ F I9 h)
theorem Go.args {es : List Expr} {vs : List Value} {pos : Pos} {R : List Value → Lc → Led → Nat → Prop} (P : PVs (gk.heap_1 c.w.params) sc c.cl m nw es t vs t') (h : R vs m nw t') : Go sc c (spliced (backTo pos (starEach es (c.env sc)))) m nw t R := by
  intro s Q hk ht F I k
  have I9 := I
  obtain ⟨g, hG, N, hne⟩ := I
  exact P.sound c.ok ht F c.X (topRead_of c.T) (KStb.news_of N fun p hp => List.mem_append_right _ hp) (k _ s.heap _ _ _ F I9 h)
theorem Go.argsE {e : Expr} {es : List Expr} {pos : Pos} {R : List Value → Lc → Led → Nat → Prop} (he : starEach (e :: es) (c.env sc) = (false, eval e (c.env sc)) :: starEach es (c.env sc))
    (h : Go sc c (eval e (c.env sc)) m nw t fun v m1 nw1 t1 => Go sc c (spliced (backTo pos (starEach es (c.env sc)))) m1 nw1 t1 fun vs m2 nw2 t2 => R (v :: vs) m2 nw2 t2) : Go sc c (spliced (backTo pos (starEach (e :: es) (c.env sc)))) m nw t R :=
  fun s Q hk ht F I k => args_cons (h s _ hk ht F I fun v h' m' nw' t' F' I' r => r _ _ hk rfl F' I' fun vs h2 m2 nw2 t2 F2 I2 r2 => k _ _ _ _ _ F2 I2 r2) he
theorem Go.newList {vs : List Value} {R : Value → Lc → Led → Nat → Prop} (hz : vs.length ≤ sizeLine) (h : ∀ D nw', (D, listOf vs.toArray 0) ∈ nw' → Sub nw nw' → Abv nw D → R (.ref D) m nw' t) : Go sc c (newList vs) m nw t R := by
  intro s Q hk ht F I k
  obtain ⟨g, hG, N, hne⟩ := I
  subst ht
  exact newList_K F N (fun D h' F' N' l1 => k _ _ _ _ _ F' (Cx.Iv.push hG hne N' l1) (h D _ (.head _) (fun p hp => .tail _ hp) fun p hp => l1 p (List.mem_append_right _ hp))) hz
theorem Go.newTup {vs : List Value} {R : Value → Lc → Led → Nat → Prop} (hz : vs.length ≤ sizeLine) (h : ∀ D nw', (D, tupO vs 0) ∈ nw' → Sub nw nw' → Abv nw D → R (.ref D) m nw' t) : Go sc c (newTuple vs) m nw t R := by
  intro s Q hk ht F I k
  obtain ⟨g, hG, N, hne⟩ := I
  subst ht
  exact kup_newTuple F N (fun D h' F' N' l1 => k _ _ _ _ _ F' (Cx.Iv.push hG hne N' l1) (h D _ (.head _) (fun p hp => .tail _ hp) fun p hp => l1 p (List.mem_append_right _ hp))) hz
noncomputable def Seq (sc : Scope) (c : Cx) (rest : List Stmt) (R : Flow → Lc → Led → Nat → Prop) : Flow → Lc → Led → Nat → Prop
  | .next, m, nw, t => Go sc c (execs rest (c.env sc)) m nw t R
  | f, m, nw, t => R f m nw t
theorem Go.nil {R : Flow → Lc → Led → Nat → Prop} (h : R .next m nw t) : Go sc c (execs [] (c.env sc)) m nw t R := by
  intro s Q hk ht F I k
  subst ht
  exact wpAny_execs_nil (k _ s.heap _ _ _ F I h)
theorem Go.cons {st : Stmt} {rest : List Stmt} {R : Flow → Lc → Led → Nat → Prop} (h : Go sc c (exec st (c.env sc)) m nw t (Seq sc c rest R)) : Go sc c (execs (st :: rest) (c.env sc)) m nw t R := by
  intro s Q hk ht F I k
  refine wpAny_execs_cons (h s _ hk ht F I fun f h' m' nw' t' F' I' r => ?_)
  cases f with
  | next => exact r _ Q hk rfl F' I' k
  | _ => exact k _ _ _ _ _ F' I' r
theorem Go.store {x : Str} {v : Value} {R : Unit → Lc → Led → Nat → Prop} (hx : locOk sc x = true) (h : ∀ m', Up1 m m' x v → R () m' nw (t + 1)) : Go sc c (storeName (c.env sc) x v) m nw t R := by
  intro s Q hk ht F I k
  subst ht
  obtain ⟨g, hG, N, hne⟩ := I
  exact storeE_L c.ok F N (fun h' F' N' => k _ _ _ _ _ F' ⟨g, hG, N', hne⟩ (h _ up1_mk)) hx
theorem Go.asgE {e : Expr} {x : Str} {pos' pos : Pos} {rest : List Stmt} {R : Flow → Lc → Led → Nat → Prop} (hx : locOk sc x = true) (hs : swapsWith e (some (.Name x pos')) pos.line (c.env sc) = Pure.pure false)
    (h : Go sc c (eval e (c.env sc)) m nw t fun v m1 nw1 t1 => ∀ m', Up1 m1 m' x v → Go sc c (execs rest (c.env sc)) m' nw1 (t1 + 1) R) : Go sc c (execs (.Assign [.Name x pos'] e pos :: rest) (c.env sc)) m nw t R := by
  intro s Q hk ht F I k
  exact wpAny_execs_cons (wpAny_Assign_Name (h s _ hk ht F I fun v h' m' nw' t' F' I' r => Go.store (R := fun _ m2 nw2 t2 => Go sc c (execs rest (c.env sc)) m2 nw2 t2 R) hx r _ _ hk rfl F' I' fun _ h2 m2 nw2 t2 F2 I2 r2 => r2 _ Q hk rfl F2 I2 k) hs)
theorem Go.asgV {e : Expr} {v : Value} {x : Str} {pos' pos : Pos} {rest : List Stmt} {R : Flow → Lc → Led → Nat → Prop} (P : PV (gk.heap_1 c.w.params) sc c.cl m nw e t v t') (hx : locOk sc x = true)
    (h : ∀ m', Up1 m m' x v → Go sc c (execs rest (c.env sc)) m' nw (t' + 1) R) : Go sc c (execs (.Assign [.Name x pos'] e pos :: rest) (c.env sc)) m nw t R :=
  Go.asgE hx (swaps_pv P) (Go.ev P h)
theorem Go.retE {e : Expr} {pos : Pos} {rest : List Stmt} {R : Flow → Lc → Led → Nat → Prop} (h : Go sc c (eval e (c.env sc)) m nw t fun v => R (.ret v)) : Go sc c (execs (.Return (some e) pos :: rest) (c.env sc)) m nw t R := by
  intro s Q hk ht F I k
  exact wpAny_execs_cons (wpAny_Return_some (h s _ hk ht F I fun v h' m' nw' t' F' I' r => k _ _ _ _ _ F' I' r))
theorem Go.retV {e : Expr} {v : Value} {pos : Pos} {rest : List Stmt} {R : Flow → Lc → Led → Nat → Prop} (P : PV (gk.heap_1 c.w.params) sc c.cl m nw e t v t') (h : R (.ret v) m nw t') : Go sc c (execs (.Return (some e) pos :: rest) (c.env sc)) m nw t R := Go.retE (Go.ev P h)
theorem Go.ifE {test : Expr} {body els : List Stmt} {pos : Pos} {rest : List Stmt} {R : Flow → Lc → Led → Nat → Prop} (h : Go sc c (isTrue test (c.env sc) (eval test (c.env sc))) m nw t fun b m1 nw1 t1 => Go sc c (execs (cond b body els) (c.env sc)) m1 nw1 t1 (Seq sc c rest R)) :
    Go sc c (execs (.If test body els pos :: rest) (c.env sc)) m nw t R := by
  refine Go.cons fun s Q hk ht F I k => ?_
  refine wpAny_If (h s _ hk ht F I fun b h' m' nw' t' F' I' r => ?_)
  cases b
  · exact r _ Q hk rfl F' I' k
  · exact r _ Q hk rfl F' I' k
theorem Go.callV {es : List Expr} {vs : List Value} {x : Str} {xp pos : Pos} {f : Value} {R : Value → Lc → Led → Nat → Prop} (hx : globOk sc x = true) (e : nsIn (gk.heap_1 c.w.params) mainGlobals x = some (some f)) (hf : keepIn (gk.heap_1 c.w.params) f = true) (P : PVs (gk.heap_1 c.w.params) sc c.cl m nw es t vs t') (h : Go sc c (call f vs) m nw t' R) :
    Go sc c (eval (.Call (.Name x xp) es [] pos) (c.env sc)) m nw t R := by
  intro s Q hk ht F I k
  have I9 := I
  obtain ⟨g, hG, N, hne⟩ := I
  subst ht
  exact call_pure c.ok F c.X (topRead_of c.T) (KStb.news_of N fun p hp => List.mem_append_right _ hp) hx e hf P (h { s with toks := t' } Q hk rfl F I9 k)
theorem Go.callE {a : Expr} {es : List Expr} {x : Str} {xp pos : Pos} {f : Value} {R : Value → Lc → Led → Nat → Prop} (hx : globOk sc x = true) (e : nsIn (gk.heap_1 c.w.params) mainGlobals x = some (some f)) (hf : keepIn (gk.heap_1 c.w.params) f = true)
    (he : starEach (a :: es) (c.env sc) = (false, eval a (c.env sc)) :: starEach es (c.env sc)) (hp : (backTo pos (starEach es (c.env sc))).any (·.1) = false)
    (h : Go sc c (spliced (backTo pos (starEach (a :: es) (c.env sc)))) m nw t fun vs m1 nw1 t1 => Go sc c (call f vs) m1 nw1 t1 R) : Go sc c (eval (.Call (.Name x xp) (a :: es) [] pos) (c.env sc)) m nw t R := by
  intro s Q hk ht F I k
  exact Call_ (nameE_K c.ok F c.X (topRead_of c.T) e (callWith_K c.X hf (h s _ hk ht F I fun vs h' m' nw' t' F' I' r => ⟨c.X.keeps F'.keep, r _ Q hk rfl F' I' k⟩) he hp) hx)
noncomputable def LstR (R : Value → Lc → Led → Nat → Prop) (vs : List Value) (m : Lc) (nw : Led) (t : Nat) : Prop := vs.length ≤ sizeLine ∧ ∀ D nw', (D, listOf vs.toArray 0) ∈ nw' → Sub nw nw' → Abv nw D → R (.ref D) m nw' t
noncomputable def TupR (R : Value → Lc → Led → Nat → Prop) (vs : List Value) (m : Lc) (nw : Led) (t : Nat) : Prop := vs.length ≤ sizeLine ∧ ∀ D nw', (D, tupO vs 0) ∈ nw' → Sub nw nw' → Abv nw D → R (.ref D) m nw' t
theorem Go.listE {es : List Expr} {pos : Pos} {R : Value → Lc → Led → Nat → Prop} (h : Go sc c (spliced (backTo pos (starEach es (c.env sc)))) m nw t (LstR R)) :
    Go sc c (eval (.List es pos) (c.env sc)) m nw t R := by
  intro s Q hk ht F I k
  exact List_ (h s _ hk ht F I fun vs h' m' nw' t' F' I' r => Go.newList r.1 r.2 _ Q hk rfl F' I' k)
theorem Go.tupE {es : List Expr} {n : Nat} {pos : Pos} {R : Value → Lc → Led → Nat → Prop} (h : Go sc c (spliced (backTo pos (starEach es (c.env sc)))) m nw t (TupR R)) :
    Go sc c (eval (.Tuple es n pos) (c.env sc)) m nw t R := by
  intro s Q hk ht F I k
  exact Tuple_ (h s _ hk ht F I fun vs h' m' nw' t' F' I' r => Go.newTup r.1 r.2 _ Q hk rfl F' I' k)
theorem Go.listV {es : List Expr} {vs : List Value} {pos : Pos} {R : Value → Lc → Led → Nat → Prop} (P : PVs (gk.heap_1 c.w.params) sc c.cl m nw es t vs t') (hz : vs.length ≤ sizeLine) (h : ∀ D nw', (D, listOf vs.toArray 0) ∈ nw' → Sub nw nw' → Abv nw D → R (.ref D) m nw' t') : Go sc c (eval (.List es pos) (c.env sc)) m nw t R :=
  Go.listE (Go.args P ⟨hz, h⟩)
theorem Go.tupV {es : List Expr} {vs : List Value} {n : Nat} {pos : Pos} {R : Value → Lc → Led → Nat → Prop} (P : PVs (gk.heap_1 c.w.params) sc c.cl m nw es t vs t') (hz : vs.length ≤ sizeLine) (h : ∀ D nw', (D, tupO vs 0) ∈ nw' → Sub nw nw' → Abv nw D → R (.ref D) m nw' t') : Go sc c (eval (.Tuple es n pos) (c.env sc)) m nw t R :=
  Go.tupE (Go.args P ⟨hz, h⟩)
theorem LstR.mk {vs : List Value} {R : Value → Lc → Led → Nat → Prop} (hz : Nat.ble vs.length 1000 = true) (h : ∀ D nw', (D, listOf vs.toArray 0) ∈ nw' → Sub nw nw' → Abv nw D → R (.ref D) m nw' t) : LstR R vs m nw t := ⟨by have := Nat.le_of_ble_eq_true hz; rw [sizeLine_eq]; omega, h⟩
theorem TupR.mk {vs : List Value} {R : Value → Lc → Led → Nat → Prop} (hz : Nat.ble vs.length 1000 = true) (h : ∀ D nw', (D, tupO vs 0) ∈ nw' → Sub nw nw' → Abv nw D → R (.ref D) m nw' t) : TupR R vs m nw t := ⟨by have := Nat.le_of_ble_eq_true hz; rw [sizeLine_eq]; omega, h⟩
noncomputable def flv : Flow → Value
  | .ret v => v
  | _ => .none
noncomputable def RetR (R : Value → Lc → Led → Nat → Prop) (m : Lc) (fl : Flow) (_ : Lc) (nw : Led) (t : Nat) : Prop := R (flv fl) m nw t
theorem RetR.ret {R : Value → Lc → Led → Nat → Prop} {v : Value} {m1 : Lc} (h : R v m nw t) : RetR R m (.ret v) m1 nw t := h
theorem RetR.nx {R : Value → Lc → Led → Nat → Prop} {m1 : Lc} (h : R .none m nw t) : RetR R m .next m1 nw t := h
theorem Go.enterH {f : Addr} {vs ws : List Value} {name qual : Str} {params : Arguments} {body : List Stmt} {scope : Scope} {dV kV doc pm cdv ct oc : Value} {an od : Option Addr} {osl : Array (Option Value)} {R : Value → Lc → Led → Nat → Prop}
    (ho : (gk.heap_1 c.w.params).lookup f = some ⟨oc, od, .func (fnOf name qual params body scope dV kV doc pm an cdv ct), osl⟩) (hcd : codeIn (gk.heap_1 c.w.params) cdv qual = true) (hdp : c.dp < recursionLimit)
    (hbind : ∀ s, (gk.heap_1 c.w.params).In s.heap → BindsTo s (fnOf name qual params body scope dV kV doc pm an cdv ct) ⟨vs, []⟩ ((params.args.map fun x => x.arg).zip ws)) (hloc : ∀ y ∈ (params.args.map fun x => x.arg).zip ws, scope.names.lookup y.1 = some .local)
    (hco : scope.isCoroutine = false) (hgen : scope.isGenerator = false) (hkk : scope.kind = .function) (hcell : ∀ x ∈ scope.names, x.2 ≠ .cell)
    (h : ∀ (c1 : Cx) (m0 : Lc) (t0 : Nat), c1.dp = c.dp + 1 → c1.un = c.un + 3 → c1.G = c.G → c1.fsc = none → (∀ b o, c.h₀.get? b = some o → c1.h₀.get? b = some o) → m0 = prm params ws → Go scope c1 (execs body (c1.env scope)) m0 nw t0 (RetR R m)) :
    Go sc c (call (.ref f) vs) m nw t R := by
  intro s Q hk ht F I k
  obtain ⟨mf, g, Hf, hfk, Ff, hg, hgH, N, hne, back⟩ := c.view hk F I
  subst ht
  refine wpAny_call ?_
  refine PySem.W.code_def (A₀ := c.A₀) (base := c.base) (env := envX c.cn (c.fsc.getD sc) c.fL c.ca c.ccd c.fcl) (outer := c.outer) c.B Ff c.X N c.T rfl rfl hfk ho hcd hdp (hbind s (c.X.keeps Ff.keep)) hloc ?_ hco hgen hkk hcell
  intro g' L' h2 FG F2 N2 B2 X2 T2
  let c1 : Cx := { c with A₀ := c.A sc, base := c.base, outer := envX c.cn (c.fsc.getD sc) c.fL c.ca c.ccd c.fcl :: c.outer, dp := c.dp + 1, un := c.un + 3, gd := c.gd, cn := qual, ca := f, ccd := cdv, cl := [], h₀ := g', L := L', fsc := none, fL := L', fcl := [], fn := some f, B := B2, X := X2, T := T2, H := fun l => l = Hf, fw := .inl ⟨rfl, rfl, rfl⟩ }
  refine wpAny_mono (E := NoE) ?_ (fun _ _ z => z) fun _ _ z => z.elim
  refine h c1 _ _ rfl rfl rfl rfl FG.keep rfl { s with heap := h2, toks := s.toks + ((params.args.map fun x => x.arg).zip ws).length } _ hkk rfl F2 ⟨_, ⟨g, Hf, hg, rfl, rfl, hgH⟩, N2, hne⟩ fun fl h' m' nw' t' F' I' r => ?_
  obtain ⟨_, ⟨g2, l2, hG2, e2, rfl, hd2⟩, N', hne'⟩ := I'
  cases e2
  exact leaveK_ F' N' fun kF kN => by
    obtain ⟨b1, b2⟩ := back _ _ _ kF hG2 hd2 kN hne'
    cases fl <;> exact k _ _ _ _ _ b1 b2 r
theorem Go.enterW {f : Addr} {vs ws : List Value} {name qual : Str} {params : Arguments} {body : List Stmt} {scope : Scope} {dV kV doc pm cdv ct oc : Value} {an od : Option Addr} {osl : Array (Option Value)} {R : Value → Lc → Led → Nat → Prop}
    (ho : (gk.heap_1 c.w.params).lookup f = some ⟨oc, od, .func (fnOf name qual params body scope dV kV doc pm an cdv ct), osl⟩) (hcd : codeIn (gk.heap_1 c.w.params) cdv qual = true) (hdp : c.dp < recursionLimit)
    (hbind : ∀ s, (gk.heap_1 c.w.params).In s.heap → BindsTo s (fnOf name qual params body scope dV kV doc pm an cdv ct) ⟨vs, []⟩ ((params.args.map fun x => x.arg).zip ws)) (hloc : ∀ y ∈ (params.args.map fun x => x.arg).zip ws, scope.names.lookup y.1 = some .local)
    (hco : scope.isCoroutine = false) (hgen : scope.isGenerator = false) (hkk : scope.kind = .function) (hcell : ∀ x ∈ scope.names, x.2 ≠ .cell)
    (h : ∀ (c1 : Cx) (m0 : Lc) (t0 : Nat), c1.dp = c.dp + 1 → c1.un = c.un + 3 → c1.G = c.G → c1.fsc = none → m0 = prm params ws → Go scope c1 (execs body (c1.env scope)) m0 nw t0 (RetR R m)) :
    Go sc c (call (.ref f) vs) m nw t R := Go.enterH ho hcd hdp hbind hloc hco hgen hkk hcell fun c1 m0 t0 a b d e _ f => h c1 m0 t0 a b d e f
theorem Go.enter {f : Addr} {vs : List Value} {name qual : Str} {params : Arguments} {body : List Stmt} {scope : Scope} {dV kV doc pm cdv ct oc : Value} {an od : Option Addr} {osl : Array (Option Value)} {R : Value → Lc → Led → Nat → Prop}
    (ho : (gk.heap_1 c.w.params).lookup f = some ⟨oc, od, .func (fnOf name qual params body scope dV kV doc pm an cdv ct), osl⟩) (hcd : codeIn (gk.heap_1 c.w.params) cdv qual = true) (hdp : c.dp < recursionLimit)
    (hbind : ∀ s, (gk.heap_1 c.w.params).In s.heap → BindsTo s (fnOf name qual params body scope dV kV doc pm an cdv ct) ⟨vs, []⟩ ((params.args.map fun x => x.arg).zip vs)) (hloc : ∀ y ∈ (params.args.map fun x => x.arg).zip vs, scope.names.lookup y.1 = some .local)
    (hco : scope.isCoroutine = false) (hgen : scope.isGenerator = false) (hkk : scope.kind = .function) (hcell : ∀ x ∈ scope.names, x.2 ≠ .cell)
    (h : ∀ (c1 : Cx) (m0 : Lc) (t0 : Nat), c1.dp = c.dp + 1 → c1.un = c.un + 3 → c1.G = c.G → c1.fsc = none → m0 = prm params vs → Go scope c1 (execs body (c1.env scope)) m0 nw t0 (RetR R m)) :
    Go sc c (call (.ref f) vs) m nw t R := Go.enterW ho hcd hdp hbind hloc hco hgen hkk hcell h
end
end
section
theorem roomE {d d1 k a b l : Nat} (e : d1 = d + k) (h : d + a < l) (hb : Nat.ble (k + b) a = true) : d1 + b < l := by subst e; exact room1 h hb
theorem roomE0 {d d1 k a l : Nat} (e : d1 = d + k) (h : d + a < l) (hb : Nat.ble k a = true) : d1 < l := by subst e; exact room0 h hb
theorem roomQ {d d1 b l : Nat} (e : d1 = d) (h : d + b < l) : d1 + b < l := e ▸ h
theorem roomQ0 {d d1 l : Nat} (e : d1 = d) (h : d < l) : d1 < l := e ▸ h
theorem roomR {d d1 k b l : Nat} (e : d1 = d) (h : d + k + b < l) : d1 + k + b < l := e ▸ h
theorem le_up {n a b : Nat} (h : n ≤ a) (e : Nat.ble a b = true) : n ≤ b := Nat.le_trans h (Nat.le_of_ble_eq_true e)
theorem le_eq {n k a b : Nat} (q : n = k) (h : k ≤ a) (e : Nat.ble a b = true) : n ≤ b := q ▸ le_up h e
theorem le_up1 {n a b : Nat} (h : n ≤ a) (e : Nat.ble (a + 1) b = true) : n + 1 ≤ b := Nat.le_trans (Nat.succ_le_succ h) (Nat.le_of_ble_eq_true e)
theorem le_up2 {n a b : Nat} (h : n ≤ a) (e : Nat.ble (a + 1 + 1) b = true) : n + 1 + 1 ≤ b := Nat.le_trans (Nat.succ_le_succ (Nat.succ_le_succ h)) (Nat.le_of_ble_eq_true e)
theorem take_le {α : Type} {l : List α} {n b : Nat} (h : l.length ≤ b) : (l.take n).length ≤ b := by rw [List.length_take]; exact Nat.le_trans (Nat.min_le_right _ _) h
theorem drop_le {α : Type} {l : List α} {n b : Nat} (h : l.length ≤ b) : (l.drop n).length ≤ b := by rw [List.length_drop]; exact Nat.le_trans (Nat.sub_le _ _) h
theorem nat_nn {n : Nat} : (0 : Int) ≤ (n : Int) := Int.natCast_nonneg n
theorem nat_le {n k : Nat} (h : n ≤ k) : (n : Int) ≤ (k : Int) := Int.ofNat_le.mpr h
theorem nat_lt {n a : Nat} {b : Int} (h : n ≤ a) (e : decide ((a : Int) < b) = true) : (n : Int) < b := Int.lt_of_le_of_lt (nat_le h) (of_decide_eq_true e)
theorem nat_lte {n k a : Nat} {b : Int} (q : n = k) (h : k ≤ a) (e : decide ((a : Int) < b) = true) : (n : Int) < b := q ▸ nat_lt h e
theorem z_nn {i : Nat} : (0 : Int) ≤ 0 + (i : Int) := by rw [Int.zero_add]; exact nat_nn
theorem z_lt {i n a : Nat} {b : Int} (h : i < n) (q : n ≤ a) (e : decide ((a : Int) < b) = true) : 0 + (i : Int) < b := by rw [Int.zero_add]; exact nat_lt (Nat.le_trans (Nat.le_of_lt h) q) e
theorem z_lte {i n k a : Nat} {b : Int} (h : i < n) (p : n = k) (q : k ≤ a) (e : decide ((a : Int) < b) = true) : 0 + (i : Int) < b := z_lt h (p ▸ q) e
noncomputable def SrcG (src : Addr) (n : Nat) : Led → Prop := fun g => ∃ (a b : Int) (ta tb : Tok), 0 ≤ a ∧ 0 ≤ b ∧ b < 2147483647 ∧ g = [(src, listOf [.int a ta, .int b tb].toArray n)]
theorem Cx.Iv.mut {c : Cx} {h' : Heap} {nw g : Led} {d : Addr} {o' : Obj} (hG : c.HG g) (hne : ∀ p ∈ g, ∀ q ∈ nw, p.1 ≠ q.1) {o : Obj} (hm : (d, o) ∈ nw) (N : News c.h₀ c.L h' (g ++ (d, o') :: nw.filter fun p => p.1 != d)) : c.Iv h' ((d, o') :: nw.filter fun p => p.1 != d) := by
  refine ⟨g, hG, N, fun p hp q hq => ?_⟩
  cases hq with
  | head => exact (show p.1 ≠ d from hne p hp (d, o) hm)
  | tail _ hq => exact hne p hp q (List.mem_filter.mp hq).1
theorem filt_ne {nw : Led} {d : Addr} : ∀ p ∈ nw.filter (fun p => p.1 != d), p.1 ≠ d := fun p hp => by simpa using (List.mem_filter.mp hp).2
theorem filt_keep {h₀ h : Heap} {L : Addr} {nw g : Led} {d : Addr} {o o' : Obj} (N : News h₀ L h (g ++ nw)) (hm : (d, o) ∈ nw) : Keep d o nw ((d, o') :: nw.filter fun p => p.1 != d) := fun p hp hn => by
  by_cases e : p.1 = d
  · have e1 := (N p (List.mem_append_right _ hp)).1
    have e2 := (N (d, o) (List.mem_append_right _ hm)).1
    rw [e] at e1
    exact (hn.elim (fun q => q e) fun q => q (Option.some.inj (e1.symm.trans e2))).elim
  · exact .tail _ (List.mem_filter.mpr ⟨hp, by simpa using e⟩)
theorem filt_sub {h₀ h : Heap} {L : Addr} {nw g : Led} {d : Addr} {o : Obj} (N : News h₀ L h (g ++ nw)) (hm : (d, o) ∈ nw) : News h₀ L h (g ++ (d, o) :: nw.filter fun p => p.1 != d) := by
  refine KStb.news_of N fun p hp => ?_
  rcases List.mem_append.mp hp with hp | hp
  · exact List.mem_append_left _ hp
  · refine List.mem_append_right _ ?_
    cases hp with
    | head => exact hm
    | tail _ hp => exact (List.mem_filter.mp hp).1
section
variable {sc : Scope} {c : Cx} {m : Lc} {nw : Led} {t t' : Nat}
theorem Go.ctor {C fI : Addr} {vs : List Value} {name qual : Str} {params : Arguments} {body : List Stmt} {scope : Scope} {dV kV doc pm cdv ct oc : Value} {an od : Option Addr} {osl : Array (Option Value)} {f : Nat → Str → Option Value} {tf : Nat → Nat} {R : Value → Lc → Led → Nat → Prop}
    (hm : makesIn (gk.heap_1 c.w.params) C = true) (hi : findIn (gk.heap_1 c.w.params) (.ref C) "__init__" = some (some (.ref fI))) (hf : isFn (gk.heap_1 c.w.params) (.ref fI) = true)
    (ho : (gk.heap_1 c.w.params).lookup fI = some ⟨oc, od, .func (fnOf name qual params body scope dV kV doc pm an cdv ct), osl⟩) (hcd : codeIn (gk.heap_1 c.w.params) cdv qual = true) (hdp : c.dp + 1 < recursionLimit)
    (hbind : ∀ x s, BindsTo s (fnOf name qual params body scope dV kV doc pm an cdv ct) ⟨.ref x :: vs, []⟩ ((params.args.map fun x => x.arg).zip (.ref x :: vs))) (hloc : ∀ x : Addr, ∀ y ∈ (params.args.map fun x => x.arg).zip (.ref x :: vs), scope.names.lookup y.1 = some .local) (hlen : ∀ x : Addr, ((params.args.map fun x => x.arg).zip (Value.ref x :: vs)).length = vs.length + 1)
    (hco : scope.isCoroutine = false) (hgen : scope.isGenerator = false) (hkk : scope.kind = .function) (hcell : ∀ x ∈ scope.names, x.2 ≠ .cell) (hbl : body.length ≤ 900)
    (P : ∀ x t1, PI (gk.heap_1 c.w.params) scope (prm params (.ref x :: vs)) x C body t1 (fun _ => none) (f t1) (tf t1))
    (h : ∀ x dx es n nw' t1, (x, instObj C dx) ∈ nw' → (dx, dictOf es n) ∈ nw' → Flds es (f t1) body.length → Sub nw nw' → Abv nw dx → @LT.lt Nat _ dx x → R (.ref x) m nw' (tf t1)) : Go sc c (call (.ref C) vs) m nw t R := by
  intro s Q hk ht F I k
  obtain ⟨mf, g, Hf, hfk, Ff, hg, hgH, N, hne, back⟩ := c.view hk F I
  subst ht
  refine ctor_c ⟨c.B, Ff, c.X, N, c.T⟩ hfk hm hi hf ho hcd hdp hbind hloc hlen hco hgen hkk hcell hbl (fun x => P x _) fun x dx es n h' F' N' l1 l2 hf' => ?_
  obtain ⟨b1, b2⟩ := back h' g ((x, instObj C dx) :: (dx, dictOf es n) :: nw) F' hg hgH (KStb.news_of N' fun p hp => by
    rcases List.mem_append.mp hp with hp | hp
    · exact .tail _ (.tail _ (List.mem_append_left _ hp))
    · cases hp with
      | head => exact .head _
      | tail _ hp =>
        cases hp with
        | head => exact .tail _ (.head _)
        | tail _ hp => exact .tail _ (.tail _ (List.mem_append_right _ hp))) (fun p hp q hq => by
    have q1 := l1 p (List.mem_append_left _ hp)
    cases hq with
    | head => exact Nat.ne_of_lt (Nat.lt_trans q1 l2)
    | tail _ hq =>
      cases hq with
      | head => exact Nat.ne_of_lt q1
      | tail _ hq => exact hne p hp q hq)
  exact k _ _ _ _ _ b1 b2 (h _ _ _ _ _ _ (.head _) (.tail _ (.head _)) hf' (fun p hp => .tail _ (.tail _ hp)) (fun p hp => l1 p (List.mem_append_right _ hp)) l2)
noncomputable def SetR (sc : Scope) (c : Cx) (x name : Str) (rest : List Stmt) (R : Flow → Lc → Led → Nat → Prop) (v : Value) (m1 : Lc) (nw1 : Led) (t1 : Nat) : Prop := ∃ o C dx es n f b, m1 x = some (.ref o) ∧ (o, instObj C dx) ∈ nw1 ∧ (dx, dictOf es n) ∈ nw1 ∧ Flds es f b ∧ b ≤ 900 ∧ setOk (gk.heap_1 c.w.params) C name = true ∧
      ∀ nw' es' n' f', (o, instObj C dx) ∈ nw' → (dx, dictOf es' n') ∈ nw' → Keep dx (dictOf es n) nw1 nw' → Flds es' f' (b + 1) → Up1 f f' name v → Go sc c (execs rest (c.env sc)) m1 nw' (t1 + 2) R
theorem SetR.mk {x name : Str} {rest : List Stmt} {R : Flow → Lc → Led → Nat → Prop} {v : Value} {o C dx : Addr} {es : List DictEntry} {n b : Nat} {f : Str → Option Value} (hv : m x = some (.ref o)) (h1 : (o, instObj C dx) ∈ nw) (h2 : (dx, dictOf es n) ∈ nw) (h3 : Flds es f b) (hb : b ≤ 900) (hs : setOk (gk.heap_1 c.w.params) C name = true)
    (h : ∀ nw' es' n' f', (o, instObj C dx) ∈ nw' → (dx, dictOf es' n') ∈ nw' → Keep dx (dictOf es n) nw nw' → Flds es' f' (b + 1) → Up1 f f' name v → Go sc c (execs rest (c.env sc)) m nw' (t + 2) R) : SetR sc c x name rest R v m nw t := ⟨o, C, dx, es, n, f, b, hv, h1, h2, h3, hb, hs, h⟩
theorem Go.setE {e : Expr} {x name : Str} {xp pos' pos : Pos} {rest : List Stmt} {R : Flow → Lc → Led → Nat → Prop} (hx : locOk sc x = true) (hw : swapsWith e (some (.Attribute (.Name x xp) name pos')) pos.line (c.env sc) = Pure.pure false)
    (h : Go sc c (eval e (c.env sc)) m nw t (SetR sc c x name rest R)) : Go sc c (execs (.Assign [.Attribute (.Name x xp) name pos'] e pos :: rest) (c.env sc)) m nw t R := by
  intro s Q hk ht F I k
  refine wpAny_execs_cons (plainObj_wpAny_Assign_Attribute (h s _ hk ht F I fun v h' m1 nw1 t1 F1 I1 r => ?_) hw)
  obtain ⟨o, C, dx, es, n, f, b, hv, h1, h2, h3, hb, hs, r⟩ := r
  obtain ⟨s1, s2, s3, s4⟩ := setOk_inv hs
  obtain ⟨g, hG, N, hne⟩ := I1
  have f3 := flds_put (name := name) (hsh := PyData.keyHash c.w.params name) (t := t1 + 1) (v := v) h3
  refine nameE_L c.ok F1 hv ?_ hx
  refine set_dict (es' := putL name (PyData.keyHash c.w.params name) (.str name (t1 + 1)) v es) (n' := putN name es n) (ox := instObj C dx) (news' := g ++ (dx, dictOf (putL name (PyData.keyHash c.w.params name) (.str name (t1 + 1)) v es) (putN name es n)) :: nw1.filter fun p => p.1 != dx) F1 c.X (filt_sub N h2) (InstAt.of_news N (List.mem_append_right _ h1) (List.mem_append_right _ h2)) rfl s1 s2 s3 s4 (by rw [h3.1]; rfl) rfl ?_ (Nat.le_trans f3.2 (by omega)) fun h2' F2 N2 => ?_
  · exact upd_app filt_ne fun p hp => hne p hp _ h2
  · exact r _ _ _ _ ((filt_keep N h2) _ h1 (.inl fun e => by
      have e1 := (N _ (List.mem_append_right g h1)).1
      have e2 := (N _ (List.mem_append_right g h2)).1
      rw [show (o, instObj C dx).1 = dx from e] at e1
      exact absurd (Option.some.inj (e1.symm.trans e2)) (fun z => by cases z))) (.head _) (filt_keep N h2) f3 up1_mk _ Q hk rfl F2 (Cx.Iv.mut hG hne h2 N2) k
theorem Go.setV {e : Expr} {v : Value} {o C dx : Addr} {es : List DictEntry} {n b : Nat} {f : Str → Option Value} {x name : Str} {xp pos' pos : Pos} {rest : List Stmt} {R : Flow → Lc → Led → Nat → Prop} (P : PV (gk.heap_1 c.w.params) sc c.cl m nw e t v t') (hx : locOk sc x = true) (hv : m x = some (.ref o))
    (h1 : (o, instObj C dx) ∈ nw) (h2 : (dx, dictOf es n) ∈ nw) (h3 : Flds es f b) (hb : b ≤ 900) (hs : setOk (gk.heap_1 c.w.params) C name = true)
    (h : ∀ nw' es' n' f', (o, instObj C dx) ∈ nw' → (dx, dictOf es' n') ∈ nw' → Keep dx (dictOf es n) nw nw' → Flds es' f' (b + 1) → Up1 f f' name v → Go sc c (execs rest (c.env sc)) m nw' (t' + 2) R) : Go sc c (execs (.Assign [.Attribute (.Name x xp) name pos'] e pos :: rest) (c.env sc)) m nw t R :=
  Go.setE hx (swaps_pv P) (Go.ev P ⟨o, C, dx, es, n, f, b, hv, h1, h2, h3, hb, hs, h⟩)
theorem Go.ifexp {test body els : Expr} {pos : Pos} {R : Value → Lc → Led → Nat → Prop} (h : Go sc c (isTrue test (c.env sc) (eval test (c.env sc))) m nw t fun b m1 nw1 t1 => Go sc c (eval (cond b body els) (c.env sc)) m1 nw1 t1 R) : Go sc c (eval (.IfExp test body els pos) (c.env sc)) m nw t R := by
  intro s Q hk ht F I k
  refine IfExp_ (h s _ hk ht F I fun b h' m1 nw1 t1 F1 I1 r1 => ?_)
  cases b
  · exact r1 _ Q hk rfl F1 I1 k
  · exact r1 _ Q hk rfl F1 I1 k
theorem Go.intop {op : Operator} {a b d : Int} {u v : Tok} {R : Value → Lc → Led → Nat → Prop} (C : BI op a b d) (h : R (.int d t) m nw (t + 1)) : Go sc c (binaryOp op (.int a u) (.int b v)) m nw t R := by
  intro s Q hk ht F I k
  subst ht
  exact C.sound (k _ s.heap _ _ _ F I h)
noncomputable def As2R (sc : Scope) (c : Cx) (x y : Str) (rest : List Stmt) (R : Flow → Lc → Led → Nat → Prop) (v : Value) (m1 : Lc) (nw1 : Led) (t1 : Nat) : Prop := ∃ a k u w, v = .ref a ∧ (a, tupO [u, w] k) ∈ nw1 ∧ ∀ m2 m3, Up1 m1 m2 y w → Up1 m2 m3 x u → Go sc c (execs rest (c.env sc)) m3 nw1 (t1 + 1 + 1) R
theorem As2R.mk {x y : Str} {rest : List Stmt} {R : Flow → Lc → Led → Nat → Prop} {a : Addr} {k : Nat} {u w : Value} (hm : (a, tupO [u, w] k) ∈ nw) (h : ∀ m2 m3, Up1 m m2 y w → Up1 m2 m3 x u → Go sc c (execs rest (c.env sc)) m3 nw (t + 1 + 1) R) : As2R sc c x y rest R (.ref a) m nw t := ⟨a, k, u, w, rfl, hm, h⟩
theorem Go.asg2 {value : Expr} {x y : Str} {xp yp tp pos : Pos} {n : Nat} {rest : List Stmt} {R : Flow → Lc → Led → Nat → Prop} (hs : swapsWithSole [.Tuple [.Name x xp, .Name y yp] n tp] value pos.line (c.env sc) = Pure.pure false)
    (hw : swappedStores [.Tuple [.Name x xp, .Name y yp] n tp] value (c.env sc) = Pure.pure (some [x, y])) (hx : locOk sc x = true) (hy : locOk sc y = true)
    (h : Go sc c (eval value (c.env sc)) m nw t (As2R sc c x y rest R)) :
    Go sc c (execs (.Assign [.Tuple [.Name x xp, .Name y yp] n tp] value pos :: rest) (c.env sc)) m nw t R := by
  intro s Q hk ht F I k
  refine wpAny_execs_cons (Assign_Tuple_swapped (h s _ hk ht F I fun v h' m1 nw1 t1 F1 I1 r1 => ?_) hs hw)
  obtain ⟨a, kk, u, w, rfl, hm, r⟩ := r1
  obtain ⟨g, hG, N, hne⟩ := I1
  refine unpackItemsN_ (items := [u, w].toArray) F1 N ⟨_, (N _ (List.mem_append_right _ hm)).1, rfl, kk, rfl⟩ rfl rfl fun h2 F2 N2 => ?_
  refine assignInOrder_cons (bindName_ ?_)
  refine Go.store (c := c) (nw := nw1) (t := t1) (R := fun _ m2 nw2 t2 => ∀ m3, Up1 m2 m3 x u → Go sc c (execs rest (c.env sc)) m3 nw2 (t2 + 1) R) hy (fun m2 u2 m3 u3 => r m2 m3 u2 u3) _ _ hk rfl F2 ⟨g, hG, N2, hne⟩ fun _ h3 m3 nw3 t3 F3 I3 r3 => ?_
  refine assignInOrder_cons (bindName_ ?_)
  refine Go.store (R := fun _ m2 nw2 t2 => Go sc c (execs rest (c.env sc)) m2 nw2 t2 R) hx r3 _ _ hk rfl F3 I3 fun _ h4 m4 nw4 t4 F4 I4 r4 => ?_
  exact assignInOrder_nil (r4 _ Q hk rfl F4 I4 k)
theorem src_out {src : Addr} {o : Obj} {H nw : Led} (hd : ∀ p ∈ [(src, o)], ∀ q ∈ H, p.1 ≠ q.1) (hne : ∀ p ∈ [(src, o)] ++ H, ∀ q ∈ nw, p.1 ≠ q.1) : ∀ p ∈ H ++ nw, p.1 ≠ src := by
  intro p hp
  rcases List.mem_append.mp hp with hp | hp
  · exact (hd (src, o) (.head _) p hp).symm
  · exact (hne (src, o) (.head _) p hp).symm
theorem src_hd {src : Addr} {o o' : Obj} {H : Led} (hd : ∀ p ∈ [(src, o)], ∀ q ∈ H, p.1 ≠ q.1) : ∀ p ∈ [(src, o')], ∀ q ∈ H, p.1 ≠ q.1 := fun p hp q hq => by
  rw [List.mem_singleton.mp hp]; exact hd (src, o) (.head _) q hq
theorem src_hn {src : Addr} {o o' : Obj} {H nw : Led} (hne : ∀ p ∈ [(src, o)] ++ H, ∀ q ∈ nw, p.1 ≠ q.1) : ∀ p ∈ [(src, o')] ++ H, ∀ q ∈ nw, p.1 ≠ q.1 := fun p hp q hq => by
  rcases List.mem_cons.mp hp with rfl | hp
  · exact hne (src, o) (.head _) q hq
  · exact hne p (.tail _ hp) q hq
theorem Go.take {src : Addr} {n : Nat} {top : Int} {tt : Tok} {R : Value → Lc → Led → Nat → Prop} (hG : c.G = SrcG src n) (ht : 0 < top) (ht2 : top < 100) (hdp : c.dp + 1 < recursionLimit) (hun : c.un + 8 < cLine) (h : ∀ d u t', 0 ≤ d → d < top → R (.int d u) m nw t') :
    Go sc c (call (.ref 1143) [.ref src, .int top tt]) m nw t R := by
  intro s Q hk htk F I k
  obtain ⟨mf, g, Hf, hfk, Ff, hg, hd, N, hne, back⟩ := c.view hk F I
  rw [hG] at hg
  obtain ⟨a, b, ta, tb, h1, h2, h3, rfl⟩ := hg
  refine take_c (nw := Hf ++ nw) ⟨c.B, Ff, c.X, N, c.T⟩ (src_out hd hne) hfk h1 h2 h3 ht ht2 hdp hun fun d u a' b' ta' tb' h' tk' q1 q2 q3 q4 q5 F' N' => ?_
  obtain ⟨b1, b2⟩ := back h' _ nw F' (by rw [hG]; exact ⟨a', b', ta', tb', q3, q4, q5, rfl⟩) (src_hd hd) N' (src_hn hne)
  exact k _ _ _ _ _ b1 b2 (h _ _ _ q1 q2)
end
end
section
noncomputable def MakR (R : Value → Lc → Led → Nat → Prop) (x : Addr) (m : Lc) (fl : Flow) (_ : Lc) (nw : Led) (t : Nat) : Prop := flv fl = .none ∧ R (.ref x) m nw t
section
variable {sc : Scope} {c : Cx} {m : Lc} {nw : Led} {t t' : Nat}
theorem Go.makeW {C fI : Addr} {vs ws : List Value} {name qual : Str} {params : Arguments} {body : List Stmt} {scope : Scope} {dV kV doc pm cdv ct oc : Value} {an od : Option Addr} {osl : Array (Option Value)} {R : Value → Lc → Led → Nat → Prop}
    (hm : makesIn (gk.heap_1 c.w.params) C = true) (hi : findIn (gk.heap_1 c.w.params) (.ref C) "__init__" = some (some (.ref fI))) (hf : isFn (gk.heap_1 c.w.params) (.ref fI) = true)
    (ho : (gk.heap_1 c.w.params).lookup fI = some ⟨oc, od, .func (fnOf name qual params body scope dV kV doc pm an cdv ct), osl⟩) (hcd : codeIn (gk.heap_1 c.w.params) cdv qual = true) (hdp : c.dp + 1 < recursionLimit)
    (hbind : ∀ x s, (gk.heap_1 c.w.params).In s.heap → BindsTo s (fnOf name qual params body scope dV kV doc pm an cdv ct) ⟨.ref x :: vs, []⟩ ((params.args.map fun x => x.arg).zip (.ref x :: ws))) (hloc : ∀ x : Addr, ∀ y ∈ (params.args.map fun x => x.arg).zip (.ref x :: ws), scope.names.lookup y.1 = some .local)
    (hco : scope.isCoroutine = false) (hgen : scope.isGenerator = false) (hkk : scope.kind = .function) (hcell : ∀ x ∈ scope.names, x.2 ≠ .cell)
    (h : ∀ x dx nw' (c1 : Cx) (m0 : Lc) (t0 : Nat), m0 = prm params (.ref x :: ws) → c1.dp = c.dp + 2 → c1.un = c.un + 4 → c1.G = c.G → c1.fsc = none → (x, instObj C dx) ∈ nw' → (dx, dictOf [] 0) ∈ nw' → Sub nw nw' → Abv nw dx → @LT.lt Nat _ dx x →
      Go scope c1 (execs body (c1.env scope)) m0 nw' t0 (MakR R x m)) : Go sc c (call (.ref C) vs) m nw t R := by
  intro s Q hk ht F I k
  obtain ⟨mf, g, Hf, hfk, Ff, hg, hgH, N, hne, back⟩ := c.view hk F I
  subst ht
  refine call_cls Ff c.X N hm hi hf fun x dx h1 F1 N1 l1 l2 => ?_
  refine PySem.W.code_def (A₀ := c.A₀) (base := c.base) (env := envX c.cn (c.fsc.getD sc) c.fL c.ca c.ccd c.fcl) (outer := c.outer) c.B F1 c.X N1 c.T rfl rfl hfk ho hcd hdp (hbind x _ (c.X.keeps F1.keep)) (hloc x) ?_ hco hgen hkk hcell
  intro g' L' h2 FG F2 N2 B2 X2 T2
  let c1 : Cx := { c with A₀ := (c.A sc).under (.builtin "type.__call__" ⟨.ref C :: vs, []⟩), base := c.base, outer := envX c.cn (c.fsc.getD sc) c.fL c.ca c.ccd c.fcl :: c.outer, dp := c.dp + 2, un := c.un + 4, gd := ((c.A sc).under (.builtin "type.__call__" ⟨.ref C :: vs, []⟩)).guards, cn := qual, ca := fI, ccd := cdv, cl := [], h₀ := g', L := L', fsc := none, fL := L', fcl := [], fn := some fI, B := B2, X := X2, T := T2, H := fun l => l = Hf, fw := .inl ⟨rfl, rfl, rfl⟩ }
  have I2 : c1.Iv h2 ((x, instObj C dx) :: (dx, dictOf [] 0) :: nw) := by
    refine ⟨g ++ Hf, ⟨g, Hf, hg, rfl, rfl, hgH⟩, KStb.news_of N2 fun p hp => ?_, fun p hp q hq => ?_⟩
    · rcases List.mem_append.mp hp with hp | hp
      · exact .tail _ (.tail _ (List.mem_append_left _ hp))
      · cases hp with
        | head => exact .head _
        | tail _ hp =>
          cases hp with
          | head => exact .tail _ (.head _)
          | tail _ hp => exact .tail _ (.tail _ (List.mem_append_right _ hp))
    · have q1 := l1 p (List.mem_append_left _ hp)
      cases hq with
      | head => exact Nat.ne_of_lt (Nat.lt_trans q1 l2)
      | tail _ hq =>
        cases hq with
        | head => exact Nat.ne_of_lt q1
        | tail _ hq => exact hne p hp q hq
  refine wpAny_mono (E := NoE) ?_ (fun _ _ z => z) fun _ _ z => z.elim
  refine h x dx _ c1 _ _ rfl rfl rfl rfl rfl (.head _) (.tail _ (.head _)) (fun p hp => .tail _ (.tail _ hp)) (fun p hp => l1 p (List.mem_append_right _ hp)) l2 { s with heap := h2, toks := s.toks + ((params.args.map fun x => x.arg).zip (Value.ref x :: ws)).length } _ hkk rfl F2 I2 fun fl h' m' nw' t' F' I' r => ?_
  obtain ⟨_, ⟨g2, l2, hG2, e2, rfl, hd2⟩, N', hne'⟩ := I'
  cases e2
  exact leaveK_ F' N' fun kF kN => ⟨by cases fl <;> exact r.1, by
    obtain ⟨b1, b2⟩ := back _ _ _ kF hG2 hd2 kN hne'
    exact k _ _ _ _ _ b1 b2 r.2⟩
theorem Go.make {C fI : Addr} {vs : List Value} {name qual : Str} {params : Arguments} {body : List Stmt} {scope : Scope} {dV kV doc pm cdv ct oc : Value} {an od : Option Addr} {osl : Array (Option Value)} {R : Value → Lc → Led → Nat → Prop}
    (hm : makesIn (gk.heap_1 c.w.params) C = true) (hi : findIn (gk.heap_1 c.w.params) (.ref C) "__init__" = some (some (.ref fI))) (hf : isFn (gk.heap_1 c.w.params) (.ref fI) = true)
    (ho : (gk.heap_1 c.w.params).lookup fI = some ⟨oc, od, .func (fnOf name qual params body scope dV kV doc pm an cdv ct), osl⟩) (hcd : codeIn (gk.heap_1 c.w.params) cdv qual = true) (hdp : c.dp + 1 < recursionLimit)
    (hbind : ∀ x s, (gk.heap_1 c.w.params).In s.heap → BindsTo s (fnOf name qual params body scope dV kV doc pm an cdv ct) ⟨.ref x :: vs, []⟩ ((params.args.map fun x => x.arg).zip (.ref x :: vs))) (hloc : ∀ x : Addr, ∀ y ∈ (params.args.map fun x => x.arg).zip (.ref x :: vs), scope.names.lookup y.1 = some .local)
    (hco : scope.isCoroutine = false) (hgen : scope.isGenerator = false) (hkk : scope.kind = .function) (hcell : ∀ x ∈ scope.names, x.2 ≠ .cell)
    (h : ∀ x dx nw' (c1 : Cx) (m0 : Lc) (t0 : Nat), m0 = prm params (.ref x :: vs) → c1.dp = c.dp + 2 → c1.un = c.un + 4 → c1.G = c.G → c1.fsc = none → (x, instObj C dx) ∈ nw' → (dx, dictOf [] 0) ∈ nw' → Sub nw nw' → Abv nw dx → @LT.lt Nat _ dx x →
      Go scope c1 (execs body (c1.env scope)) m0 nw' t0 (MakR R x m)) : Go sc c (call (.ref C) vs) m nw t R :=
  Go.makeW hm hi hf ho hcd hdp hbind hloc hco hgen hkk hcell h
theorem MakR.nx {R : Value → Lc → Led → Nat → Prop} {x : Addr} {m1 : Lc} (h : R (.ref x) m nw t) : MakR R x m .next m1 nw t := ⟨rfl, h⟩
theorem Sub.rf {a : Led} : Sub a a := fun _ h => h
theorem Sub.sub {a b d : Led} (h : Sub a b) (k : Sub b d) : Sub a d := fun p hp => k p (h p hp)
theorem Sub.keep {a b b' : Led} {d : Addr} {o : Obj} (h : Sub a b) (k : Keep d o b b') (l : Abv a d) : Sub a b' := fun p hp => k p (h p hp) (.inl (Nat.ne_of_lt (l p hp)))
theorem Sub.tr {a b d : Led} (k : Sub b d) (h : Sub a b) : Sub a d := fun p hp => k p (h p hp)
theorem Sub.keep' {a b b' : Led} {d : Addr} {o : Obj} (k : Keep d o b b') (h : Sub a b) (l : Abv a d) : Sub a b' := fun p hp => k p (h p hp) (.inl (Nat.ne_of_lt (l p hp)))
theorem Sub.keepA' {a b b' : Led} {d : Addr} (k : KeepA d b b') (h : Sub a b) (l : Abv a d) : Sub a b' := fun p hp => k p (h p hp) (Nat.ne_of_lt (l p hp))
theorem Abv.tr {a b : Led} {d : Addr} (l : Abv b d) (h : Sub a b) : Abv a d := fun p hp => l p (h p hp)
theorem Ins.to {a b : Led} {x C : Addr} {f : Str → Option Value} (I : Ins a x C f) (h : Sub a b) : Ins b x C f := I.mono h
theorem sub_mem {a b : Led} {p : Addr × Obj} (h : Sub a b) (hp : p ∈ a) : p ∈ b := h p hp
theorem abv_lt {nw : Led} {a d : Addr} {o : Obj} (h : Abv nw d) (hm : (a, o) ∈ nw) : @LT.lt Nat _ a d := h _ hm
theorem abv_ne {nw : Led} {a d : Addr} {o : Obj} (h : Abv nw d) (hm : (a, o) ∈ nw) : a ≠ d := Nat.ne_of_lt (h _ hm)
theorem abv_ne' {nw : Led} {a d : Addr} {o : Obj} (h : Abv nw d) (hm : (a, o) ∈ nw) : d ≠ a := Nat.ne_of_gt (h _ hm)
theorem Go.condT {a b : List Stmt} {R : Flow → Lc → Led → Nat → Prop} (h : Go sc c (execs a (c.env sc)) m nw t R) : Go sc c (execs (cond true a b) (c.env sc)) m nw t R := h
theorem Go.condF {a b : List Stmt} {R : Flow → Lc → Led → Nat → Prop} (h : Go sc c (execs b (c.env sc)) m nw t R) : Go sc c (execs (cond false a b) (c.env sc)) m nw t R := h
theorem Go.condB {q : Bool} {a b : List Stmt} {R : Flow → Lc → Led → Nat → Prop} (h1 : q = true → Go sc c (execs a (c.env sc)) m nw t R) (h2 : q = false → Go sc c (execs b (c.env sc)) m nw t R) : Go sc c (execs (cond q a b) (c.env sc)) m nw t R := by
  cases q
  · exact h2 rfl
  · exact h1 rfl
theorem Go.condET {a b : Expr} {R : Value → Lc → Led → Nat → Prop} (h : Go sc c (eval a (c.env sc)) m nw t R) : Go sc c (eval (cond true a b) (c.env sc)) m nw t R := h
theorem Go.condEF {a b : Expr} {R : Value → Lc → Led → Nat → Prop} (h : Go sc c (eval b (c.env sc)) m nw t R) : Go sc c (eval (cond false a b) (c.env sc)) m nw t R := h
theorem Go.condEB {q : Bool} {a b : Expr} {R : Value → Lc → Led → Nat → Prop} (h1 : q = true → Go sc c (eval a (c.env sc)) m nw t R) (h2 : q = false → Go sc c (eval b (c.env sc)) m nw t R) : Go sc c (eval (cond q a b) (c.env sc)) m nw t R := by
  cases q
  · exact h2 rfl
  · exact h1 rfl
theorem Seq.next {rest : List Stmt} {R : Flow → Lc → Led → Nat → Prop} (h : Go sc c (execs rest (c.env sc)) m nw t R) : Seq sc c rest R .next m nw t := h
theorem Seq.ret {rest : List Stmt} {R : Flow → Lc → Led → Nat → Prop} {v : Value} (h : R (.ret v) m nw t) : Seq sc c rest R (.ret v) m nw t := h
theorem Go.lower {e : Expr} {x : Str} {u : Tok} {apos pos : Pos} {R : Value → Lc → Led → Nat → Prop} {pl : Sem Bool} (P : PV (gk.heap_1 c.w.params) sc c.cl m nw e t (.str x u) t') (he : eval (.Call (.Attribute e (Str.ofString "lower") apos) [] [] pos) (c.env sc) = (do
      let ov ← eval e (c.env sc)
      standAt apos.atName
      let (f, first) ← holding [ov] (getMethod ov (Str.ofString "lower") pl)
      callWith pos f first (backTo pos (starEach [] (c.env sc))) [])) (hl : x.length ≤ 5592405) (h : R (.str (Txt.lower x) t') m nw (t' + 1)) : Go sc c (eval (.Call (.Attribute e (Str.ofString "lower") apos) [] [] pos) (c.env sc)) m nw t R := by
  intro s Q hk ht F I k
  have I9 := I
  obtain ⟨g, hG, N, hne⟩ := I
  subst ht
  refine MethodCall_ (pl := pl) (P.sound c.ok rfl F c.X (topRead_of c.T) (KStb.news_of N fun p hp => List.mem_append_right _ hp) ?_) he
  walk1
  walk1
  refine SCL.lower hl fun _ => ?_
  exact k _ s.heap _ _ _ F I9 h
end
end
section
section
variable {sc : Scope} {c : Cx} {m : Lc} {nw : Led} {t t' : Nat}
noncomputable def WhE (J : Nat → Lc → Led → Prop) (n : Nat) (R : Flow → Lc → Led → Nat → Prop) : Flow → Lc → Led → Nat → Prop
  | .brk, m, nw, t => R .next m nw t
  | .ret v, m, nw, t => R (.ret v) m nw t
  | _, m, nw, _ => ∃ n', n' < n ∧ J n' m nw
noncomputable def WhT (sc : Scope) (c : Cx) (body : List Stmt) (J : Nat → Lc → Led → Prop) (n : Nat) (R : Flow → Lc → Led → Nat → Prop) (b : Bool) (m : Lc) (nw : Led) (t : Nat) : Prop :=
  match b with
  | true => Go sc c (execs body (c.env sc)) m nw t (WhE J n R)
  | false => R .next m nw t
theorem WhT.yes {body : List Stmt} {J : Nat → Lc → Led → Prop} {n : Nat} {R : Flow → Lc → Led → Nat → Prop} (h : Go sc c (execs body (c.env sc)) m nw t (WhE J n R)) : WhT sc c body J n R true m nw t := h
theorem WhT.no {body : List Stmt} {J : Nat → Lc → Led → Prop} {n : Nat} {R : Flow → Lc → Led → Nat → Prop} (h : R .next m nw t) : WhT sc c body J n R false m nw t := h
theorem WhE.br {J : Nat → Lc → Led → Prop} {n : Nat} {R : Flow → Lc → Led → Nat → Prop} (h : R .next m nw t) : WhE J n R .brk m nw t := h
theorem WhE.nx {J : Nat → Lc → Led → Prop} {n n' : Nat} {R : Flow → Lc → Led → Nat → Prop} (hn : n' < n) (h : J n' m nw) : WhE J n R .next m nw t := ⟨n', hn, h⟩
theorem WhE.ct {J : Nat → Lc → Led → Prop} {n n' : Nat} {R : Flow → Lc → Led → Nat → Prop} (hn : n' < n) (h : J n' m nw) : WhE J n R .cont m nw t := ⟨n', hn, h⟩
theorem Go.while_ {test : Expr} {body : List Stmt} {pos : Pos} {rest : List Stmt} {R : Flow → Lc → Led → Nat → Prop} (J : Nat → Lc → Led → Prop) (n : Nat) (hj : J n m nw)
    (turn : ∀ n m1 nw1 t1, J n m1 nw1 → Go sc c (isTrue test (c.env sc) (eval test (c.env sc))) m1 nw1 t1 (WhT sc c body J n (Seq sc c rest R))) : Go sc c (execs (.While test body [] pos :: rest) (c.env sc)) m nw t R := by
  refine Go.cons fun s Q hk ht F I k => ?_
  obtain ⟨g, hG, N, hne⟩ := I
  have hj' : (∃ g1 nw1, g ++ nw = g1 ++ nw1 ∧ c.HG g1 ∧ (∀ p ∈ g1, ∀ q ∈ nw1, p.1 ≠ q.1) ∧ J n m nw1) := ⟨g, nw, rfl, hG, hne, hj⟩
  refine While_inv2 (fun n m1 l => ∃ g1 nw1, l = g1 ++ nw1 ∧ c.HG g1 ∧ (∀ p ∈ g1, ∀ q ∈ nw1, p.1 ≠ q.1) ∧ J n m1 nw1) F N hj' ?_ PassesOwn.never
  rintro n m1 l h tk F1 N1 ⟨g1, nw1, rfl, hG1, hne1, hJ⟩
  refine wpAny_mono (E := NoE) (turn n m1 nw1 tk hJ { s with heap := h, toks := tk } _ hk rfl F1 ⟨g1, hG1, N1, hne1⟩ fun b h' m' nw' t' F' I' r => ?_) (fun _ _ z => z) fun _ _ z => z.elim
  cases b with
  | false => exact k _ _ _ _ _ F' I' r
  | true =>
    simp only [if_true]
    refine wpAny_mono (E := NoE) (Go.weak (R := WhE J n (Seq sc c rest R)) (fun _ h => h) r _ _ hk rfl F' I' fun f h2 m2 nw2 t2 F2 I2 r2 => ?_) (fun _ _ z => z) fun _ _ z => z.elim
    cases f with
    | brk => exact k _ _ _ _ _ F2 I2 r2
    | ret v => exact k _ _ _ _ _ F2 I2 r2
    | next =>
      obtain ⟨n', hn, hJ2⟩ := r2
      obtain ⟨g2, hG2, N2, hne2⟩ := I2
      exact ⟨_, _, _, _, n', rfl, F2, N2, hn, g2, nw2, rfl, hG2, hne2, hJ2⟩
    | cont =>
      obtain ⟨n', hn, hJ2⟩ := r2
      obtain ⟨g2, hG2, N2, hne2⟩ := I2
      exact ⟨_, _, _, _, n', rfl, F2, N2, hn, g2, nw2, rfl, hG2, hne2, hJ2⟩
end
noncomputable def Cx.hide (c : Cx) (own : Led) : Cx := { c with
  H := fun l => ∃ l0, c.H l0 ∧ l = l0 ++ own ∧ ∀ p ∈ l0, ∀ q ∈ own, p.1 ≠ q.1
  fw := by
    rcases c.fw with h | ⟨s, mf, e1, hs, ha, hH⟩
    · exact .inl h
    · refine .inr ⟨s, mf, e1, hs, ha, ?_⟩
      rintro l ⟨l0, h0, rfl, hd⟩
      obtain ⟨o, l1, rfl, hn, h1, h2⟩ := hH l0 h0
      refine ⟨o, l1 ++ own, rfl, hn, fun p hp => ?_, fun o' ho => ⟨(c.fL, o') :: l1, h2 o' ho, rfl, fun p hp q hq => ?_⟩⟩
      · rcases List.mem_append.mp hp with hp | hp
        · exact h1 p hp
        · exact (hd (c.fL, o) mh p hp).symm
      · rcases List.mem_cons.mp hp with rfl | hp
        · exact hd (c.fL, o) mh q hq
        · exact hd p (mt hp) q hq }
theorem hid_iv {c : Cx} {h : Heap} {own g1 nw1 : Led} (hG : c.HG g1) (hne : ∀ p ∈ g1, ∀ q ∈ nw1, p.1 ≠ q.1) (hoff : ∀ p ∈ g1 ++ nw1, ∀ q ∈ own, p.1 ≠ q.1) (N : News c.h₀ c.L h (own ++ (g1 ++ nw1))) : (c.hide own).Iv h nw1 := by
  obtain ⟨g, l, hg, hl, rfl, hd⟩ := hG
  refine ⟨g ++ (l ++ own), ⟨g, l ++ own, hg, ⟨l, hl, rfl, fun p hp q hq => hoff p (ml (mr hp)) q hq⟩, rfl, fun p hp q hq => ?_⟩, KStb.news_of N fun p hp => ?_, fun p hp q hq => ?_⟩
  · rcases List.mem_append.mp hq with hq | hq
    · exact hd p hp q hq
    · exact hoff p (ml (ml hp)) q hq
  · rcases List.mem_append.mp hp with hp | hp
    · rcases List.mem_append.mp hp with hp | hp
      · exact mr (ml (ml hp))
      · rcases List.mem_append.mp hp with hp | hp
        · exact mr (ml (mr hp))
        · exact ml hp
    · exact mr (mr hp)
  · rcases List.mem_append.mp hp with hp | hp
    · exact hne p (ml hp) q hq
    · rcases List.mem_append.mp hp with hp | hp
      · exact hne p (mr hp) q hq
      · exact (hoff q (mr hq) p hp).symm
theorem hid_out {c : Cx} {h : Heap} {own nw1 : Led} (hI : (c.hide own).Iv h nw1) : ∃ g1, c.HG g1 ∧ News c.h₀ c.L h (own ++ (g1 ++ nw1)) ∧ (∀ p ∈ g1, ∀ q ∈ nw1, p.1 ≠ q.1) ∧ ∀ p ∈ g1 ++ nw1, ∀ q ∈ own, p.1 ≠ q.1 := by
  obtain ⟨gh, ⟨g, l, hg, ⟨l0, hl, rfl, hd0⟩, rfl, hd⟩, N, hne⟩ := hI
  refine ⟨g ++ l0, ⟨g, l0, hg, hl, rfl, fun p hp q hq => hd p hp q (ml hq)⟩, KStb.news_of N fun p hp => ?_, fun p hp q hq => ?_, fun p hp q hq => ?_⟩
  · rcases List.mem_append.mp hp with hp | hp
    · exact ml (mr (mr hp))
    · rcases List.mem_append.mp hp with hp | hp
      · rcases List.mem_append.mp hp with hp | hp
        · exact ml (ml hp)
        · exact ml (mr (ml hp))
      · exact mr hp
  · rcases List.mem_append.mp hp with hp | hp
    · exact hne p (ml hp) q hq
    · exact hne p (mr (ml hp)) q hq
  · rcases List.mem_append.mp hp with hp | hp
    · rcases List.mem_append.mp hp with hp | hp
      · exact hd p hp q (mr hq)
      · exact hd0 p hp q hq
    · exact (hne q (mr (mr hq)) p hp).symm
noncomputable def ItS (target : Expr) (v : Value) (lst : Led) (n : Nat) (P : Nat → Value → Prop) : Prop :=
  ∀ (prog : Program) (w : World) (A : Around) (h₀ : Heap) (L : Addr) (m : Lc) (s : Shared) (news : Led) (Q : Value → Shared → Prop) (E : Value → Shared → Prop), A.handled = none → Fr h₀ L s.heap m → News h₀ L s.heap news → (∀ p ∈ lst, p ∈ news) →
    (∀ (I : Addr) (h' : Heap) (fp wr : List Addr) (St : Nat → Heap → Prop), Walks prog w A I fp wr n P St → St 0 h' → (∀ i h, St i h → ∀ b ∈ wr, ∃ o, h.get? b = some o) → (∀ b ∈ fp, b ∈ wr ∨ ∃ o, (b, o) ∈ lst) → (∀ b ∈ fp, b < h'.objs.size) → (∀ b ∈ wr, s.heap.objs.size ≤ b) → (∀ b o, s.heap.get? b = some o → h'.get? b = some o) →
      (∀ i v s' Q' E', P i v → St (i + 1) s'.heap → Q' () s' → wpAny (model prog w) A (letOwnedTupleGo target (.ref I) v) Q' E' s') → Q (.ref I) { s with heap := h' }) → wpAny (model prog w) A (pyIter v) Q E s
theorem ItS.list {target : Expr} {l : Addr} {vs : List Value} {kl : Nat} (go : ∀ (prog : Program) (w : World) (A : Around) I i v s' Q' E', vs[i]? = some v → s'.heap.IsListIter I l (i + 1) → Q' () s' → wpAny (model prog w) A (letOwnedTupleGo target (.ref I) v) Q' E' s') : ItS target (.ref l) [(l, listOf vs.toArray kl)] vs.length (fun i v => vs[i]? = some v) := by
  intro prog w A h₀ L m s news Q E hh F N hs k
  have hm := N _ (hs _ (.head _))
  have hls : s.heap.IsList l vs.toArray := PySem.IsL.isList (n := kl) hm.1
  have hlt : l < s.heap.objs.size := Heap.lt_size hm.1
  refine wpAny_pyIter_list hls ?_
  have W := Walks.list (prog := prog) (w := w) hh s.heap.objs.size l (Nat.ne_of_lt hlt) vs.toArray
  have sz : (s.heap.push { cls := .type "list_iterator", data := .fields #[.ref l, .int 0 0] }).objs.size = s.heap.objs.size + 1 := Heap.size_push ..
  refine k s.heap.objs.size (s.heap.push { cls := .type "list_iterator", data := .fields #[.ref l, .int 0 0] }) [s.heap.objs.size, l] [s.heap.objs.size] (fun i h => h.IsListIter s.heap.objs.size l i ∧ h.IsList l vs.toArray) (by simpa using W) ⟨⟨_, Heap.get?_push_size _ rfl, rfl, rfl⟩, hls.at fun o e => Heap.get?_push_of_some _ e⟩ (fun i h hst b hb => ?_) (fun b hb => ?_) (fun b hb => ?_) (fun b hb => ?_) (fun b o e => Heap.get?_push_of_some _ e) ?_
  · obtain ⟨⟨o, ho, _⟩, _⟩ := hst
    obtain rfl := List.mem_singleton.mp hb
    exact ⟨o, ho⟩
  · rcases List.mem_cons.mp hb with rfl | hb
    · exact .inl (.head _)
    · exact .inr ⟨_, by rw [List.mem_singleton.mp hb]; exact .head _⟩
  · rw [sz]
    rcases List.mem_cons.mp hb with rfl | hb
    · exact Nat.lt_succ_self _
    · exact Nat.lt_succ_of_lt ((List.mem_singleton.mp hb) ▸ hlt)
  · rw [List.mem_singleton.mp hb]; exact Nat.le_refl _
  · intro i v s' Q' E' hv hst hq
    exact go _ _ _ _ i v s' Q' E' hv hst.1 hq
theorem ItS.range {target : Expr} {r : Addr} {a b : Int} {t9 u9 v9 : Tok} {n : Nat} (go : ∀ (prog : Program) (w : World) (A : Around) I v s' Q' E', Q' () s' → wpAny (model prog w) A (letOwnedTupleGo target (.ref I) v) Q' E' s') (hn : Builtin.Range.rangeSize a b 1 = (n : Int)) (ha : 0 ≤ a) (ha2 : a < 2 ^ 20) (hb : b < 2 ^ 20) (hb0 : 0 ≤ b) : ItS target (.ref r) [(r, rangeO a b 1 t9 u9 v9)] n (fun i v => ∃ t, v = .int (a + (i : Int)) t) := by
  intro prog w A h₀ L m s news Q E hh F N hs k
  have hm := N _ (hs _ (.head _))
  refine wpAny_pyIter_range hm.1 (small_one (by omega) (by omega) (by omega) (by omega)) ?_
  have W := Walks.range (prog := prog) (w := w) hh s.heap.objs.size a 1 n
  have sz : (s.heap.push { cls := .type "range_iterator", data := .fields #[rawInt a, rawInt (Builtin.Range.rangeSize a b 1), rawInt 1] }).objs.size = s.heap.objs.size + 1 := Heap.size_push ..
  refine k s.heap.objs.size (s.heap.push { cls := .type "range_iterator", data := .fields #[rawInt a, rawInt (Builtin.Range.rangeSize a b 1), rawInt 1] }) [s.heap.objs.size] [s.heap.objs.size] (fun i h => IsRangeIter h s.heap.objs.size (a + (i : Int) * 1) ((n : Int) - (i : Int)) 1) (by simpa only [Int.mul_one] using W) ?_ (fun i h (hst : IsRangeIter _ _ _ _ _) b hb => by obtain rfl := List.mem_singleton.mp hb; exact ⟨_, hst⟩) (fun b hb => .inl hb) (fun b hb => ?_) (fun b hb => ?_) (fun b o e => Heap.get?_push_of_some _ e) ?_
  · show IsRangeIter _ _ _ _ _
    rw [hn]
    simpa using Heap.get?_push_size _ rfl
  · rw [sz, List.mem_singleton.mp hb]; exact Nat.lt_succ_self _
  · rw [List.mem_singleton.mp hb]; exact Nat.le_refl _
  · intro i v s' Q' E' hv hst hq
    exact go _ _ _ _ v s' Q' E' hq
noncomputable def FoE (J : Lc → Led → Prop) (R : Flow → Lc → Led → Nat → Prop) : Flow → Lc → Led → Nat → Prop
  | .brk, m, nw, t => R .next m nw t
  | .ret v, m, nw, t => R (.ret v) m nw t
  | _, m, nw, _ => J m nw
section
variable {sc : Scope} {c : Cx} {m : Lc} {nw : Led} {t t' : Nat}
theorem FoE.rt {J : Lc → Led → Prop} {R : Flow → Lc → Led → Nat → Prop} {v : Value} (h : R (.ret v) m nw t) : FoE J R (.ret v) m nw t := h
theorem FoE.nx {J : Lc → Led → Prop} {R : Flow → Lc → Led → Nat → Prop} (h : J m nw) : FoE J R .next m nw t := h
noncomputable def FoG (sc : Scope) (c : Cx) (target : Expr) (body : List Stmt) (R : Flow → Lc → Led → Nat → Prop) (v : Value) (m : Lc) (nw : Led) (_ : Nat) : Prop :=
  ∃ (lst : Led) (n : Nat) (P : Nat → Value → Prop) (J : Nat → Lc → Led → Prop), ItS target v lst n P ∧ Sub lst nw ∧ J 0 m nw ∧ (∀ i m1 nw1, J i m1 nw1 → Sub lst nw1) ∧
    (∀ (c2 : Cx) (i : Nat) (u : Value) (m1 : Lc) (nw1 : Led) (t1 : Nat), c2.dp = c.dp → c2.un = c.un → c2.G = c.G → c2.cl = c.cl → c2.fsc = c.fsc → c2.h₀ = c.h₀ → i < n → P i u → J i m1 nw1 → Go sc c2 (assign target (c2.env sc) u) m1 nw1 t1 fun _ m2 nw2 t2 => Go sc c2 (execs body (c2.env sc)) m2 nw2 t2 (FoE (J (i + 1)) R)) ∧
    ∀ m1 nw1 t1, J n m1 nw1 → R .next m1 nw1 t1
theorem own_apart {h₀ h : Heap} {wr : List Addr} {l : Led} (hl : ∀ p ∈ l, p.1 ∉ wr) : ∀ p ∈ l, ∀ q ∈ ownOf h₀ wr h, p.1 ≠ q.1 := fun p hp q hq e => hl p hp (e ▸ ownOf_sub q hq)
theorem Go.forG {target iter : Expr} {pos : Pos} {body rest : List Stmt} {R : Flow → Lc → Led → Nat → Prop} (hs : ∀ v, foldedSetIterable iter (c.env sc) v = Pure.pure v)
    (h : Go sc c (eval iter (c.env sc)) m nw t (FoG sc c target body (Seq sc c rest R))) : Go sc c (execs (.For target iter body [] pos :: rest) (c.env sc)) m nw t R := by
  refine Go.cons fun s Q hk ht F I k => ?_
  refine wpAny_For (h s _ hk ht F I fun v h' m' nw' t' F' I' r => ?_) hs
  obtain ⟨lst, n, P, J, hit, hl0, hj, hJl, turn, done⟩ := r
  obtain ⟨g, hG, N, hne⟩ := I'
  refine hit _ _ _ _ _ _ _ _ _ _ rfl F' N (fun p hp => mr (hl0 p hp)) fun I h1 fp wr St W hst hex hfp _ hwr hold go => ?_
  dsimp only at hwr hold ⊢
  have hw0 : ∀ b ∈ wr, c.h₀.get? b = none := fun b hb => Heap.get?_none_of_le (Nat.le_trans (Nat.le_trans F'.above (Nat.le_of_lt F'.ns.lt)) (hwr b hb))
  have hLw : c.L ∉ wr := fun hb => Nat.lt_irrefl _ (Nat.lt_of_lt_of_le F'.ns.lt (hwr _ hb))
  have hnw : ∀ p ∈ g ++ nw', p.1 ∉ wr := fun p hp hb => Nat.lt_irrefl _ (Nat.lt_of_lt_of_le (Heap.lt_size (N p hp).1) (hwr _ hb))
  have old0 : ∀ b o, c.h₀.get? b = some o → b ∉ wr := fun b o e hb => by rw [hw0 b hb] at e; cases e
  refine codeAny_forLoop_any (fun k s' => ∃ i h2 tk m1 nw1 g1, s' = { s with heap := h2, toks := tk } ∧ St i h2 ∧ Fr c.h₀ c.L h2 m1 ∧ c.HG g1 ∧ News c.h₀ c.L h2 (g1 ++ nw1) ∧ (∀ p ∈ g1, ∀ q ∈ nw1, p.1 ≠ q.1) ∧ (∀ p ∈ g1 ++ nw1, p.1 ∉ wr) ∧ J i m1 nw1 ∧ i ≤ n ∧ k = n + 1 - i) ?_ (n + 1)
    ⟨0, h1, t', m', nw', g, rfl, hst, F'.keeps hold, hG, N.grown hold, hne, hnw, hj, Nat.zero_le _, rfl⟩
  rintro k' s' ⟨i, h2, tk, m1, nw1, g1, rfl, hst2, F2, hG1, N2, hne1, hnw1, hJ, hi, rfl⟩
  have next : ∀ h₁ : Heap, (∀ b o, b ∉ wr → h2.get? b = some o → h₁.get? b = some o) → Fr c.h₀ c.L h₁ m1 ∧ News c.h₀ c.L h₁ (g1 ++ nw1) := fun h₁ hk₁ =>
    ⟨⟨F2.ns.at' fun o e => hk₁ _ o hLw e, fun b o e => hk₁ b o (old0 b o e) (F2.keep b o e), F2.above⟩, fun p hp => ⟨hk₁ _ _ (hnw1 p hp) (N2 p hp).1, (N2 p hp).2⟩⟩
  by_cases hlt : i < n
  · refine W.item i _ _ _ hlt hst2 fun v h₁ tk₁ hP hst₁ hk₁ => ?_
    refine go i v _ _ _ hP hst₁ ?_
    obtain ⟨F₁, N₁⟩ := next h₁ hk₁
    have Iv2 : (c.hide (ownOf c.h₀ wr h₁)).Iv h₁ nw1 := hid_iv hG1 hne1 (own_apart hnw1) fun p hp => by
      rcases List.mem_append.mp hp with hp | hp
      · exact news_ownOf hLw p hp
      · exact N₁ p hp
    refine wpAny_mono (E := NoE) (turn (c.hide (ownOf c.h₀ wr h₁)) i v m1 nw1 tk₁ rfl rfl rfl rfl rfl rfl hlt hP hJ { s with heap := h₁, toks := tk₁ } _ hk rfl F₁ Iv2 fun _ h3 m3 nw3 t3 F3 I3 r3 => ?_) (fun _ _ z => z) fun _ _ z => z.elim
    refine wpAny_mono (E := NoE) (r3 _ _ hk rfl F3 I3 fun f h4 m4 nw4 t4 F4 I4 r4 => ?_) (fun _ _ z => z) fun _ _ z => z.elim
    obtain ⟨g4, hG4, N4, hne4, hoff4⟩ := hid_out I4
    have N4' : News c.h₀ c.L h4 (g4 ++ nw4) := KStb.news_of N4 fun p hp => mr hp
    have hend : J (i + 1) m4 nw4 → ∃ m', m' < n + 1 - i ∧ ∃ i h2 tk m1 nw1 g1, ({ s with heap := h4, toks := t4 } : Shared) = { s with heap := h2, toks := tk } ∧ St i h2 ∧ Fr c.h₀ c.L h2 m1 ∧ c.HG g1 ∧ News c.h₀ c.L h2 (g1 ++ nw1) ∧ (∀ p ∈ g1, ∀ q ∈ nw1, p.1 ≠ q.1) ∧ (∀ p ∈ g1 ++ nw1, p.1 ∉ wr) ∧ J i m1 nw1 ∧ i ≤ n ∧ m' = n + 1 - i := by
      intro hJ4
      refine ⟨n + 1 - (i + 1), by omega, i + 1, h4, t4, m4, nw4, g4, rfl, ?_, F4, hG4, N4', hne4, ?_, hJ4, hlt, rfl⟩
      · refine W.frame _ _ _ hst₁ fun b hb o e => ?_
        rcases hfp b hb with hb | ⟨o', ho'⟩
        · exact (N4 (b, o) (ml (mem_ownOf hb (hw0 b hb) e))).1
        · have e1 := (N₁ (b, o') (mr (hJl _ _ _ hJ _ ho'))).1
          have e2 := (N4 (b, o') (mr (mr (hJl _ _ _ hJ4 _ ho')))).1
          rw [e] at e1
          rw [Option.some.inj e1]
          exact e2
      · intro p hp hb
        obtain ⟨o, ho⟩ := hex _ _ hst₁ _ hb
        exact hoff4 p hp _ (mem_ownOf hb (hw0 _ hb) ho) rfl
    cases f with
    | brk => exact k _ _ _ _ _ F4 ⟨g4, hG4, N4', hne4⟩ r4
    | ret v => exact k _ _ _ _ _ F4 ⟨g4, hG4, N4', hne4⟩ r4
    | next => exact hend r4
    | cont => exact hend r4
  · have hin : i = n := by omega
    subst hin
    refine W.done _ _ _ hst2 fun h₁ tk₁ hk₁ => wpAny_execs_nil ?_
    obtain ⟨F₁, N₁⟩ := next h₁ hk₁
    exact k _ _ _ _ _ F₁ ⟨g1, hG1, N₁, hne1⟩ (done _ _ _ hJ)
end
end
section
noncomputable def rlb (sc scope : Scope) : Scope := relabel scope { scope := sc, locals := 0, globals := 0, cells := [], qual := "", func := none, code := .none, frame := none, builtins := 0 }
noncomputable def Cx.block (c : Cx) (sc : Scope) (hk : sc.kind = .function) (cl : List (Str × Addr)) (C : Addr) (m : Lc) (own : Led) (hL : c.h₀.objs.size ≤ c.L) : Cx := { c with
  L := C, cl := cl, fn := none, fsc := some sc, fL := c.L, fcl := c.cl
  H := fun l => ∃ oL l0, LCg.NsObj oL m ∧ c.H l0 ∧ l = (c.L, oL) :: (l0 ++ own) ∧ (∀ p ∈ l0 ++ own, p.1 ≠ c.L) ∧ ∀ p ∈ l0, ∀ q ∈ own, p.1 ≠ q.1
  fw := .inr ⟨sc, m, rfl, hk, hL, by
    rintro l ⟨oL, l0, hn, h0, rfl, h1, h2⟩
    exact ⟨oL, l0 ++ own, rfl, hn, h1, fun o' ho => ⟨o', l0, ho, h0, rfl, h1, h2⟩⟩⟩ }
section
variable {prog : Program} {w : World} {A : Around} {env : Env}
noncomputable def TestP (prog : Program) (w : World) (A : Around) (X : Value → Shared → Prop) (env : Env) : List Expr → (Shared → Prop) → (Shared → Prop) → Shared → Prop
  | [], T, _ => T
  | [e], T, N => wpAny (model prog w) A (isTrue e env (eval e env)) (fun ok s => if ok = true then T s else N s) X
  | _, _, _ => fun _ => False
noncomputable def CTurn (prog : Program) (w : World) (A : Around) (env : Env) (X : Value → Shared → Prop) (elt target : Expr) (ifs : List Expr) (it acc : Value) (stop nx : Shared → Prop) : Shared → Prop :=
  wpAny (model prog w) A (pyNext it) (fun r s₁ => match r with
    | none => stop s₁
    | some v => wpAny (model prog w) A (letOwnedTupleGo target it v) (fun _ => wpAny (model prog w) A (assign target env v)
        (fun _ => TestP prog w A X env ifs (wpAny (model prog w) A (eval elt env) (fun x => wpAny (model prog w) A (call (.builtin "list.append") [acc, x]) (fun _ => nx) X) X) nx) X) X s₁) X
theorem comp_turns {R : Result → Shared → Prop} {s : Shared} {elt target iter : Expr} {scope : Scope} {pos : Pos} {it acc : Value} (I : Nat → Shared → Prop) : ∀ {ifs : List Expr}, ifs.length ≤ 1 →
    (∀ n s, I n s → CTurn prog w A env (notedBy (model prog w) A env fun e s' => R (.error e) s') elt target ifs it acc (R (.ok .next)) (fun s => ∃ m, m < n ∧ I m s) s) → ∀ n, I n s →
    codeAny (model prog w) A (.compLoop (.ListComp elt [⟨target, iter, ifs, 0⟩] scope pos) 0 it acc env) R s
  | [], _, turn => kcp_loop I turn
  | [_], _, turn => kct_loop I turn
  | _ :: _ :: _, few, _ => absurd few (by simp)
end
noncomputable def TestG (sc : Scope) (c : Cx) : List Expr → (Bool → Lc → Led → Nat → Prop) → Lc → Led → Nat → Prop
  | [], R => R true
  | [e], R => fun m nw t => Go sc c (isTrue e (c.env sc) (eval e (c.env sc))) m nw t R
  | _, _ => fun _ _ _ => False
theorem TestG.run {sc : Scope} {c : Cx} {m : Lc} {nw : Led} {t : Nat} {R : Bool → Lc → Led → Nat → Prop} {s : Shared} {X : Value → Shared → Prop} (hk : sc.kind = .function) (ht : s.toks = t) (F : Fr c.h₀ c.L s.heap m) (I : c.Iv s.heap nw) : ∀ {ifs : List Expr}, TestG sc c ifs R m nw t → ∀ (T N : Shared → Prop),
    (∀ h' m' nw' t', Fr c.h₀ c.L h' m' → c.Iv h' nw' → R true m' nw' t' → T { s with heap := h', toks := t' }) → (∀ h' m' nw' t', Fr c.h₀ c.L h' m' → c.Iv h' nw' → R false m' nw' t' → N { s with heap := h', toks := t' }) → TestP c.prog c.w (c.A sc) X (c.env sc) ifs T N s
  | [], r, _, _, yes, _ => by subst ht; exact yes _ _ _ _ F I r
  | [_], r, _, _, yes, no => wpAny_mono (E := NoE) (r s _ hk ht F I fun ok h' m' nw' t' F' I' r' => by
      cases ok
      · exact no h' m' nw' t' F' I' r'
      · exact yes h' m' nw' t' F' I' r') (fun _ _ z => z) fun _ _ z => z.elim
  | _ :: _ :: _, r, _, _, _, _ => r.elim
noncomputable def CoE (sc : Scope) (c : Cx) (elt : Expr) (J : List Value → Led → Prop) (ys : List Value) : Bool → Lc → Led → Nat → Prop
  | true, m, nw, t => Go sc c (eval elt (c.env sc)) m nw t fun y _ nw2 _ => J (ys ++ [y]) nw2
  | false, _, nw, _ => J ys nw
noncomputable def CoG (sc : Scope) (c : Cx) (elt target : Expr) (ifs : List Expr) (scope : Scope) (cl : List (Str × Addr)) (R : Value → Lc → Led → Nat → Prop) (v : Value) (m : Lc) (nw : Led) (_ : Nat) : Prop :=
  ∃ (lst : Led) (n : Nat) (P : Nat → Value → Prop) (J : Nat → List Value → Led → Prop), ItS target v lst n P ∧ n ≤ 1000 ∧ ifs.length ≤ 1 ∧ Sub lst nw ∧ J 0 [] nw ∧ (∀ i ys nw1, J i ys nw1 → Sub lst nw1) ∧
    (∀ (c2 : Cx) (i : Nat) (u : Value) (ys : List Value) (mC : Lc) (nw1 : Led) (t1 : Nat), c2.dp = c.dp → c2.un = c.un → c2.G = c.G → c2.cl = cl → i < n → P i u → J i ys nw1 →
      Go (rlb sc scope) c2 (assign target (c2.env (rlb sc scope)) u) mC nw1 t1 fun _ m2 nw2 t2 => TestG (rlb sc scope) c2 ifs (CoE (rlb sc scope) c2 elt (J (i + 1)) ys) m2 nw2 t2) ∧
    ∀ D k ys nw1 nw2 t1, J n ys nw1 → (D, listOf ys.toArray k) ∈ nw2 → Sub nw1 nw2 → Abv nw D → (∀ p ∈ nw1, p.1 ≠ D) → R (.ref D) m nw2 t1
section
variable {sc : Scope} {c : Cx} {m : Lc} {nw : Led} {t t' : Nat}
theorem Go.compI {use : Option (Value → Sem Unit)} {elt target iter : Expr} {ifs : List Expr} {scope : Scope} {cl : List (Str × Addr)} {pos : Pos} {R : Value → Lc → Led → Nat → Prop} {s : Shared} {Q : Value → Shared → Prop} {v : Value} (hf : c.fsc = none) (hkind : scope.kind = .function) (hcell : ∀ y ∈ scope.names, y.2 ≠ .cell)
    (hk : sc.kind = .function) (F : Fr c.h₀ c.L s.heap m) (I : c.Iv s.heap nw) (r : CoG sc c elt target ifs scope cl R v m nw t)
    (hQ : ∀ D C h' tk nw' mC oC g, Fr c.h₀ c.L h' m → c.HG g → News c.h₀ c.L h' ((C, oC) :: (g ++ nw')) → LCg.NsObj oC mC → (∀ p ∈ g, ∀ q ∈ nw', p.1 ≠ q.1) → (∀ p ∈ g ++ nw', p.1 ≠ C) → (∀ t1, R (.ref D) m nw' t1) → compPost (model c.prog c.w) (c.A sc) NoE use Q (.ref D) C (.ok .next) { s with heap := h', toks := tk }) :
    wpAny (model c.prog c.w) (c.A sc) (pyIter v) (fun it s₂ => wpAny (model c.prog c.w) (c.A sc) (PySem.newList []) (fun acc s₃ => wpAny (model c.prog c.w) (c.A sc) (newFunctionEnv scope (c.env sc).globals cl [] (c.env sc).qual none .none (some (c.env sc))) (fun cenv s₄ =>
      codeAny (model c.prog c.w) (c.A sc) (.compStart (.ListComp elt [⟨target, iter, ifs, 0⟩] scope pos) 0 it acc { cenv with scope := relabel scope (c.env sc) }) (compPost (model c.prog c.w) (c.A sc) NoE use Q acc cenv.locals) s₄) NoE s₃) NoE s₂) NoE s := by
  obtain ⟨lst, n, P, J, hit, hn1, few, hl0, hj, hJl, turn, done⟩ := r
  obtain ⟨g, hG, N, hne⟩ := I
  have hfw : c.fL = c.L ∧ c.fcl = c.cl := by
    rcases c.fw with ⟨_, e2, e3⟩ | ⟨s, _, e1, _⟩
    · exact ⟨e2, e3⟩
    · rw [hf] at e1; cases e1
  refine hit _ _ _ _ _ _ _ _ _ _ rfl F N (fun p hp => mr (hl0 p hp)) fun It h1 fp wr St W hst hex hfp hfs hwr hold go => ?_
  dsimp only at hwr hold ⊢
  have hw0 : ∀ b ∈ wr, c.h₀.get? b = none := fun b hb => Heap.get?_none_of_le (Nat.le_trans (Nat.le_trans F.above (Nat.le_of_lt F.ns.lt)) (hwr b hb))
  have hLw : c.L ∉ wr := fun hb => Nat.lt_irrefl _ (Nat.lt_of_lt_of_le F.ns.lt (hwr _ hb))
  have hnw : ∀ p ∈ g ++ nw, p.1 ∉ wr := fun p hp hb => Nat.lt_irrefl _ (Nat.lt_of_lt_of_le (Heap.lt_size (N p hp).1) (hwr _ hb))
  have old0 : ∀ b o, c.h₀.get? b = some o → b ∉ wr := fun b o e hb => by rw [hw0 b hb] at e; cases e
  have hwl : ∀ b ∈ wr, b < h1.objs.size := fun b hb => hfs _ (W.sub _ hb)
  have F0 := F.keeps hold
  have N0 := N.grown hold
  have hle : c.h₀.objs.size ≤ c.L := F.above
  have hL0 : c.h₀.get? c.L = none := Heap.get?_none_of_le hle
  have hDA : ∀ p ∈ nw, p.1 < h1.objs.size := fun p hp => Heap.lt_size (N0 p (mr hp)).1
  have hL1 := F0.ns.lt
  refine wpAny_newObj_type (wpAny_newFunctionEnv hcell (by intro y hy; simp at hy) (fun h₁ hns₁ hsb₁ => ?_) hkind)
  dsimp only at hns₁ hsb₁ ⊢
  have FD := F0.push { cls := .type "list", dict := none, data := .seq ([] : List Value).toArray }
  have ND := N0.push F0 { cls := .type "list", dict := none, data := .seq ([] : List Value).toArray }
  have hDfresh : c.h₀.get? h1.objs.size = none := next_is_new F0
  have sz2 : (h1.push { cls := .type "list", dict := none, data := .seq ([] : List Value).toArray }).objs.size = h1.objs.size + 1 := Heap.size_push ..
  have old2 : ∀ b o, h1.get? b = some o → (h1.push { cls := .type "list", dict := none, data := .seq ([] : List Value).toArray }).get? b = some o := fun b o e => Heap.get?_push_of_some _ e
  generalize hD : h1.objs.size = D at *
  generalize h1.push { cls := .type "list", dict := none, data := .seq ([] : List Value).toArray } = H2 at *
  generalize hC : H2.objs.size = C at *
  have hDC : @LT.lt Nat _ D C := by rw [sz2]; exact Nat.lt_succ_self _
  have hCfresh : c.h₀.get? C = none := hC ▸ next_is_new FD
  have hCL : C ≠ c.L := fun q => Nat.lt_irrefl C (by
    have := FD.ns.lt
    rw [← q, hC] at this
    exact this)
  have old : ∀ b o, H2.get? b = some o → h₁.get? b = some o := fun b o e => hsb₁.extBut b o (Nat.ne_of_lt (hC ▸ Heap.lt_size e)) (Heap.get?_push_of_some _ e)
  have hst₁ : St 0 h₁ := W.frame _ _ _ hst fun b _ o e => old _ _ (old2 b o e)
  obtain ⟨oC, hoC, hnsC⟩ := LCg.ns_obj hns₁
  have NC : News c.h₀ c.L h₁ ((C, oC) :: (D, listOf ([] : List Value).toArray 0) :: (g ++ nw)) := by
    intro p hp
    rcases List.mem_cons.mp hp with rfl | hp
    · exact ⟨hoC, hCL, hCfresh⟩
    · exact ND.grown old p hp
  have hoff0 : ∀ p ∈ g ++ nw, p.1 ≠ C ∧ p.1 ≠ D ∧ p.1 ∉ wr := fun p hp => by
    have : @LT.lt Nat _ p.1 D := hD ▸ Heap.lt_size (N0 p hp).1
    exact ⟨Nat.ne_of_lt (Nat.lt_trans this hDC), Nat.ne_of_lt this, hnw p hp⟩
  have hCw : C ∉ wr := fun hb => Nat.lt_irrefl _ (Nat.lt_trans hDC (hwl _ hb))
  have hDw : D ∉ wr := fun hb => Nat.lt_irrefl _ (hwl _ hb)
  have hCab : c.h₀.objs.size ≤ C := Nat.le_of_lt (Nat.lt_of_le_of_lt hle (Nat.lt_trans hL1 hDC))
  have loop : codeAny (model c.prog c.w) (c.A sc) (.compLoop (.ListComp elt [⟨target, iter, ifs, 0⟩] scope pos) 0 (.ref It) (.ref D) (compEnvC scope cl C (c.env sc)))
      (compPost (model c.prog c.w) (c.A sc) NoE use Q (.ref D) C) { s with heap := h₁, toks := s.toks + ([] : List (Str × Value)).length } := by
    refine comp_turns
      (fun n' s' => ∃ i h tk k ys g2 nw2 oC mC, s' = { s with heap := h, toks := tk } ∧ St i h ∧ Fr c.h₀ c.L h m ∧ c.HG g2 ∧ News c.h₀ c.L h ((C, oC) :: (D, listOf ys.toArray k) :: (g2 ++ nw2)) ∧ LCg.NsObj oC mC ∧ (∀ p ∈ g2, ∀ q ∈ nw2, p.1 ≠ q.1) ∧ (∀ p ∈ g2 ++ nw2, p.1 ≠ C ∧ p.1 ≠ D ∧ p.1 ∉ wr) ∧ J i ys nw2 ∧ i ≤ n ∧ ys.length ≤ i ∧ n' = n + 1 - i) few ?_ (n + 1)
      ⟨0, h₁, _, 0, [], g, nw, oC, _, rfl, hst₁, FD.keeps old, hG, NC, hnsC, hne, hoff0, hj, Nat.zero_le _, Nat.le_refl _, rfl⟩
    rintro n' s' ⟨i, h, tk, k, ys, g2, nw2, oC, mC, rfl, hst', F', hG2, N', hns', hne2, hoff, hJ, hi, hlen, rfl⟩
    have next : ∀ h₂ : Heap, (∀ b o, b ∉ wr → h.get? b = some o → h₂.get? b = some o) → Fr c.h₀ c.L h₂ m ∧ News c.h₀ c.L h₂ ((C, oC) :: (D, listOf ys.toArray k) :: (g2 ++ nw2)) := fun h₂ hk₂ =>
      ⟨⟨F'.ns.at' fun o e => hk₂ _ o hLw e, fun b o e => hk₂ b o (old0 b o e) (F'.keep b o e), F'.above⟩, fun p hp => ⟨hk₂ _ _ (by
        rcases List.mem_cons.mp hp with rfl | hp
        · exact hCw
        · rcases List.mem_cons.mp hp with rfl | hp
          · exact hDw
          · exact (hoff p hp).2.2) (N' p hp).1, (N' p hp).2⟩⟩
    unfold CTurn
    by_cases hlt : i < n
    · refine W.item i _ _ _ hlt hst' fun v h₂ tk₂ hP hst₂ hk₂ => ?_
      refine go i v _ _ _ hP hst₂ ?_
      obtain ⟨F₂, N₂⟩ := next h₂ hk₂
      obtain ⟨oL, eL, nL⟩ := LCg.ns_obj F₂.ns
      obtain ⟨own, hown⟩ : ∃ own, own = (D, listOf ys.toArray k) :: ownOf c.h₀ wr h₂ := ⟨_, rfl⟩
      have ownN : ∀ p ∈ own, h₂.get? p.1 = some p.2 ∧ p.1 ≠ c.L ∧ p.1 ≠ C ∧ c.h₀.get? p.1 = none ∧ ∀ q ∈ g2 ++ nw2, q.1 ≠ p.1 := fun p hp => by
        rw [hown] at hp
        rcases List.mem_cons.mp hp with rfl | hp
        · exact ⟨(N₂ _ (mt mh)).1, (N₂ _ (mt mh)).2.1, Nat.ne_of_lt hDC, (N₂ _ (mt mh)).2.2, fun q hq => (hoff q hq).2.1⟩
        · have z := news_ownOf hLw p hp
          have y := ownOf_sub p hp
          exact ⟨z.1, z.2.1, fun e => hCw (e ▸ y), z.2.2, fun q hq e => (hoff q hq).2.2 (e ▸ y)⟩
      have hE : (c.block sc hk cl C m own hle).env (rlb sc scope) = compEnvC scope cl C (c.env sc) := by
        show ({ scope := rlb sc scope, locals := C, globals := mainGlobals, cells := cl, qual := _, func := none, code := _, frame := some c.L, builtins := builtinsNs } : Env) = _
        unfold compEnvC
        dsimp only [Cx.env]
        rw [hfw.1]
        rfl
      have hAe : (c.block sc hk cl C m own hle).A (rlb sc scope) = c.A sc := by
        show ktrTop c.dp c.un c.gd c.cn sc c.L c.ca c.ccd c.cl c.outer = ktrTop c.dp c.un c.gd c.cn (c.fsc.getD sc) c.fL c.ca c.ccd c.fcl c.outer
        rw [hf, hfw.1, hfw.2]
        rfl
      have FC : Fr c.h₀ C h₂ mC := ⟨hns'.ns (N₂ (C, oC) mh).1, F₂.keep, hCab⟩
      have Iv2 : (c.block sc hk cl C m own hle).Iv h₂ nw2 := by
        obtain ⟨g0, l0, hg0, hl00, rfl, hd0⟩ := hG2
        refine ⟨g0 ++ ((c.L, oL) :: (l0 ++ own)), ⟨g0, (c.L, oL) :: (l0 ++ own), hg0, ⟨oL, l0, nL, hl00, rfl, fun p hp => ?_, fun p hp q hq => (ownN q hq).2.2.2.2 p (ml (mr hp))⟩, rfl, fun p hp q hq => ?_⟩, fun p hp => ?_, fun p hp q hq => ?_⟩
        · rcases List.mem_append.mp hp with hp | hp
          · exact (N₂ p (mt (mt (ml (mr hp))))).2.1
          · exact (ownN p hp).2.1
        · rcases List.mem_cons.mp hq with rfl | hq
          · exact (N₂ p (mt (mt (ml (ml hp))))).2.1
          · rcases List.mem_append.mp hq with hq | hq
            · exact hd0 p hp q hq
            · exact (ownN q hq).2.2.2.2 p (ml (ml hp))
        · have step : ∀ p ∈ (g0 ++ l0) ++ nw2, h₂.get? p.1 = some p.2 ∧ p.1 ≠ C ∧ c.h₀.get? p.1 = none := fun p hp => ⟨(N₂ p (mt (mt hp))).1, (hoff p hp).1, (N₂ p (mt (mt hp))).2.2⟩
          rcases List.mem_append.mp hp with hp | hp
          · rcases List.mem_append.mp hp with hp | hp
            · exact step p (ml (ml hp))
            · rcases List.mem_cons.mp hp with rfl | hp
              · exact ⟨eL, hCL.symm, hL0⟩
              · rcases List.mem_append.mp hp with hp | hp
                · exact step p (ml (mr hp))
                · exact ⟨(ownN p hp).1, (ownN p hp).2.2.1, (ownN p hp).2.2.2.1⟩
          · exact step p (mr hp)
        · rcases List.mem_append.mp hp with hp | hp
          · exact hne2 p (ml hp) q hq
          · rcases List.mem_cons.mp hp with rfl | hp
            · exact (N₂ q (mt (mt (mr hq)))).2.1.symm
            · rcases List.mem_append.mp hp with hp | hp
              · exact hne2 p (mr hp) q hq
              · exact ((ownN p hp).2.2.2.2 q (mr hq)).symm
      have T := turn (c.block sc hk cl C m own hle) i v ys mC nw2 tk₂ rfl rfl rfl rfl hlt hP hJ
      have hend : ∀ (h5 : Heap) (t5 : Nat) (m5 : Lc) (nw5 : Led) (ys' : List Value), Fr c.h₀ C h5 m5 → (c.block sc hk cl C m own hle).Iv h5 nw5 → J (i + 1) ys' nw5 → ∃ g5 oC5 mC5, St (i + 1) h5 ∧ Fr c.h₀ c.L h5 m ∧ c.HG g5 ∧ News c.h₀ c.L h5 ((C, oC5) :: (D, listOf ys.toArray k) :: (g5 ++ nw5)) ∧ News c.h₀ c.L h5 (ownOf c.h₀ wr h₂) ∧ LCg.NsObj oC5 mC5 ∧ (∀ p ∈ g5, ∀ q ∈ nw5, p.1 ≠ q.1) ∧ (∀ p ∈ g5 ++ nw5, p.1 ≠ C ∧ p.1 ≠ D ∧ p.1 ∉ wr) := by
        intro h5 t5 m5 nw5 ys' F5 I5 hJ5
        obtain ⟨_, ⟨g5, l5, hg5, ⟨oL5, l05, nL5, hl05, rfl, hq1, hq2⟩, rfl, hd5⟩, N5, hne5⟩ := I5
        obtain ⟨oC5, eC5, nC5⟩ := LCg.ns_obj F5.ns
        have eL5 := N5 (c.L, oL5) (ml (mr mh))
        have inO : ∀ p ∈ own, p ∈ (g5 ++ (c.L, oL5) :: (l05 ++ own)) ++ nw5 := fun p hp => ml (mr (mt (mr hp)))
        have ne5 : ∀ p ∈ (g5 ++ l05) ++ nw5, ∀ q ∈ own, p.1 ≠ q.1 := fun p hp q hq => by
          rcases List.mem_append.mp hp with hp | hp
          · rcases List.mem_append.mp hp with hp | hp
            · exact hd5 p hp q (mt (mr hq))
            · exact hq2 p hp q hq
          · exact (hne5 q (mr (mt (mr hq))) p hp).symm
        have neL : ∀ p ∈ (g5 ++ l05) ++ nw5, p.1 ≠ c.L := fun p hp => by
          rcases List.mem_append.mp hp with hp | hp
          · rcases List.mem_append.mp hp with hp | hp
            · exact hd5 p hp _ mh
            · exact hq1 p (ml hp)
          · exact (hne5 _ (mr mh) p hp).symm
        have in5 : ∀ p ∈ (g5 ++ l05) ++ nw5, p ∈ (g5 ++ (c.L, oL5) :: (l05 ++ own)) ++ nw5 := fun p hp => by
          rcases List.mem_append.mp hp with hp | hp
          · rcases List.mem_append.mp hp with hp | hp
            · exact ml (ml hp)
            · exact ml (mr (mt (ml hp)))
          · exact mr hp
        refine ⟨g5 ++ l05, oC5, m5, ?_, ⟨nL5.ns eL5.1, F5.keep, hle⟩, ⟨g5, l05, hg5, hl05, rfl, fun p hp q hq => hd5 p hp q (mt (ml hq))⟩, fun p hp => ?_, fun p hp => ?_, nC5, fun p hp q hq => ?_, fun p hp => ⟨(N5 p (in5 p hp)).2.1, ne5 p hp (D, listOf ys.toArray k) (by rw [hown]; exact mh), fun hb => ?_⟩⟩
        · refine W.frame _ _ _ hst₂ fun b hb o e => ?_
          rcases hfp b hb with hb | ⟨o', ho'⟩
          · exact (N5 (b, o) (inO _ (by rw [hown]; exact mt (mem_ownOf hb (hw0 b hb) e)))).1
          · have e1 := (N₂ (b, o') (mt (mt (mr (hJl _ _ _ hJ _ ho'))))).1
            have e2 := (N5 (b, o') (mr (hJl _ _ _ hJ5 _ ho'))).1
            rw [e] at e1
            rw [Option.some.inj e1]
            exact e2
        · rcases List.mem_cons.mp hp with rfl | hp
          · exact ⟨eC5, hCL, hCfresh⟩
          · rcases List.mem_cons.mp hp with rfl | hp
            · have z := inO (D, listOf ys.toArray k) (by rw [hown]; exact mh)
              exact ⟨(N5 _ z).1, hq1 _ (mr (by rw [hown]; exact mh)), hDfresh⟩
            · exact ⟨(N5 p (in5 p hp)).1, neL p hp, (N5 p (in5 p hp)).2.2⟩
        · have z : p ∈ own := by rw [hown]; exact mt hp
          exact ⟨(N5 _ (inO p z)).1, hq1 _ (mr z), (N5 _ (inO p z)).2.2⟩
        · rcases List.mem_append.mp hp with hp | hp
          · exact hne5 p (ml hp) q hq
          · exact hne5 p (mr (mt (ml hp))) q hq
        · obtain ⟨o, ho⟩ := hex _ _ hst₂ _ hb
          exact ne5 p hp (p.1, o) (by rw [hown]; exact mt (mem_ownOf hb (hw0 _ hb) ho)) rfl
      rw [hE] at T
      unfold Go at T
      rw [hAe] at T
      refine wpAny_mono (E := NoE) (T { s with heap := h₂, toks := tk₂ } _ hkind rfl FC Iv2 fun _ h3 m3 nw3 t3 F3 I3 r3 => ?_) (fun _ _ z => z) fun _ _ z => z.elim
      dsimp only at r3
      have z := TestG.run (sc := rlb sc scope) (s := { s with heap := h3, toks := t3 }) (X := notedBy (model c.prog c.w) (c.A sc) (compEnvC scope cl C (c.env sc)) fun e s' => compPost (model c.prog c.w) (c.A sc) NoE use Q (.ref D) C (.error e) s') hkind rfl F3 I3 r3
      rw [hE, hAe] at z
      refine z _ _ (fun h4 m4 nw4 t4 F4 I4 r4 => ?_) fun h4 m4 nw4 t4 F4 I4 r4 => ?_
      rotate_left
      · obtain ⟨g5, oC5, mC5, z1, z2, z3, z4, _, z5, z6, z7⟩ := hend h4 t4 m4 nw4 ys F4 I4 r4
        exact ⟨n + 1 - (i + 1), by omega, i + 1, h4, t4, k, ys, g5, nw4, oC5, mC5, rfl, z1, z2, z3, z4, z5, z6, z7, r4, hlt, by omega, rfl⟩
      · have r5 : Go (rlb sc scope) (c.block sc hk cl C m own hle) (eval elt _) m4 nw4 t4 _ := r4
        rw [hE] at r5
        unfold Go at r5
        rw [hAe] at r5
        refine wpAny_mono (E := NoE) (r5 { s with heap := h4, toks := t4 } _ hkind rfl F4 I4 fun y h5 m5 nw5 t5 F5 I5 r6 => ?_) (fun _ _ z => z) fun _ _ z => z.elim
        obtain ⟨g5, oC5, mC5, z1, z2, z3, z4, zo, z5, z6, z7⟩ := hend h5 t5 m5 nw5 _ F5 I5 r6
        have U : Upd D (listOf ys.toArray k) (listOf (ys.toArray.push y) (k + 1)) ((C, oC5) :: (D, listOf ys.toArray k) :: (g5 ++ nw5)) ((C, oC5) :: (D, listOf (ys.toArray.push y) (k + 1)) :: (g5 ++ nw5)) :=
          .tail (Nat.ne_of_gt hDC) (.head fun p hp => (z7 p hp).2.1)
        obtain ⟨pre, post, e1, e2, a, b⟩ := U.split
        have zD := z4 (D, listOf ys.toArray k) (mt mh)
        refine append_at (hsz := by rw [List.size_toArray, sizeLine_eq]; omega) zD.1 fun h₆ hs₆ ho₆ => ?_
        have F₆ := z2.change hs₆ zD.2.1 zD.2.2
        have N₆ : News c.h₀ c.L h₆ ((C, oC5) :: (D, listOf (ys ++ [y]).toArray (k + 1)) :: (g5 ++ nw5)) := by
          have q := news_set (pre := pre) (post := post) (by rw [← e1]; exact z4) a b hs₆ ho₆
          rw [← e2] at q
          simpa using q
        refine ⟨n + 1 - (i + 1), by omega, i + 1, h₆, t5, k + 1, ys ++ [y], g5, nw5, oC5, mC5, rfl, ?_, F₆, z3, N₆, z5, z6, z7, r6, hlt, by simp; exact hlen, rfl⟩
        refine W.frame _ _ _ hst₂ fun b hb o e => ?_
        rcases hfp b hb with hb | ⟨o', ho'⟩
        · exact (hs₆.2 b (fun q => hDw (q ▸ hb))).trans (zo (b, o) (mem_ownOf hb (hw0 b hb) e)).1
        · have e1 := (N₂ (b, o') (mt (mt (mr (hJl _ _ _ hJ _ ho'))))).1
          have e2 := (N₆ (b, o') (mt (mt (mr (hJl _ _ _ r6 _ ho'))))).1
          rw [e] at e1
          rw [Option.some.inj e1]
          exact e2
    · have hin : i = n := by omega
      subst hin
      refine W.done _ _ _ hst' fun h₂ tk₂ hk₂ => ?_
      obtain ⟨F₂, N₂⟩ := next h₂ hk₂
      refine hQ D C h₂ tk₂ ((D, listOf ys.toArray k) :: nw2) mC oC g2 F₂ hG2 (KStb.news_of N₂ fun p hp => ?_) hns' (fun p hp q hq => ?_) (fun p hp => ?_) fun t1 => done D k ys nw2 _ t1 hJ mh (fun p hp => mt hp) (fun p hp => hDA p hp) fun p hp => (hoff p (mr hp)).2.1
      · rcases List.mem_cons.mp hp with rfl | hp
        · exact mh
        · rcases List.mem_append.mp hp with hp | hp
          · exact mt (mt (ml hp))
          · rcases List.mem_cons.mp hp with rfl | hp
            · exact mt mh
            · exact mt (mt (mr hp))
      · rcases List.mem_cons.mp hq with rfl | hq
        · exact (hoff p (ml hp)).2.1
        · exact hne2 p hp q hq
      · rcases List.mem_append.mp hp with hp | hp
        · exact (hoff p (ml hp)).1
        · rcases List.mem_cons.mp hp with rfl | hp
          · exact Nat.ne_of_lt hDC
          · exact (hoff p (mr hp)).1
  exact codeAny_compStart_list loop (W.self 0 _ _ _ hst₁ loop)
theorem Go.comp {elt target iter : Expr} {ifs : List Expr} {scope : Scope} {cl : List (Str × Addr)} {pos : Pos} {R : Value → Lc → Led → Nat → Prop} (hf : c.fsc = none) (hkind : scope.kind = .function) (hcell : ∀ y ∈ scope.names, y.2 ≠ .cell) (hnames : ∀ y ∈ scope.names, y.2 = .local → scope.names.lookup y.1 = some .local)
    (hclos : closureFor scope (c.env sc) = Pure.pure cl) (hs : ∀ x, foldedSetIterable iter (c.env sc) x = Pure.pure x) (h : Go sc c (eval iter (c.env sc)) m nw t (CoG sc c elt target ifs scope cl R)) :
    Go sc c (eval (.ListComp elt [⟨target, iter, ifs, 0⟩] scope pos) (c.env sc)) m nw t R := by
  intro s Q hk ht F I k
  rw [eval_ListComp]
  refine wpAny_comprehension_free (use := none) rfl hs hclos hkind hnames (h s _ hk ht F I fun v h' m' nw' t' F' I' r => Go.compI (s := { s with heap := h', toks := t' }) hf hkind hcell hk F' I' r fun D C h2 tk nw2 mC oC g F2 hG2 N2 hns hne hnC hR => ?_)
  have q := N2 (C, oC) mh
  exact ⟨mC, hns.ns q.1, fun h3 hs3 => k _ h3 m' nw2 tk (F2.change hs3 q.2.1 q.2.2) ⟨g, hG2, ksk_news (fun p hp => N2 p (mt hp)) hs3 hnC, hne⟩ (hR tk)⟩
theorem Go.compA {elt target iter : Expr} {ifs : List Expr} {scope : Scope} {cl : List (Str × Addr)} {pos spos py : Pos} {y : Str} {rest : List Stmt} {R : Flow → Lc → Led → Nat → Prop} (hf : c.fsc = none) (hkind : scope.kind = .function) (hcell : ∀ y ∈ scope.names, y.2 ≠ .cell) (hnames : ∀ y ∈ scope.names, y.2 = .local → scope.names.lookup y.1 = some .local)
    (hclos : closureFor scope (c.env sc) = Pure.pure cl) (hs : ∀ x, foldedSetIterable iter (c.env sc) x = Pure.pure x) (hsw : swapsWith (.ListComp elt [⟨target, iter, ifs, 0⟩] scope pos) (some (.Name y py)) spos.line (c.env sc) = Pure.pure true) (hy : locOk sc y = true)
    (h : Go sc c (eval iter (c.env sc)) m nw t (CoG sc c elt target ifs scope cl fun v m1 nw1 t1 => ∀ m', Up1 m1 m' y v → Go sc c (execs rest (c.env sc)) m' nw1 (t1 + 1) R)) :
    Go sc c (execs (.Assign [.Name y py] (.ListComp elt [⟨target, iter, ifs, 0⟩] scope pos) spos :: rest) (c.env sc)) m nw t R := by
  intro s Q hk ht F I k
  refine wpAny_execs_cons ?_
  rw [exec_Assign_Name_used _ _ _ _ hsw]
  refine wpAny_bind (wpAny_standAt (wpAny_bind ?_))
  show wpAny _ (c.A sc) (do let _ ← comprehension (.ListComp elt [⟨target, iter, ifs, 0⟩] scope pos) scope (c.env sc) _ (PySem.newList []) false (eval iter (c.env sc)) (some (assign (.Name y py) (c.env sc)))) _ _ s
  refine wpAny_bind (wpAny_mono (wpAny_comprehension_free (use := some (assign (.Name y py) (c.env sc))) (Q := fun _ s' => wpAny (model c.prog c.w) (c.A sc) (execs rest (c.env sc)) Q NoE s') rfl hs hclos hkind hnames (h s _ hk ht F I fun v h' m' nw' t' F' I' r => Go.compI (s := { s with heap := h', toks := t' }) hf hkind hcell hk F' I' r fun D C h2 tk nw2 mC oC g F2 hG2 N2 hns hne hnC hR => ?_)) (fun _ s' hq => wpAny_pure (wpAny_pure hq)) fun _ _ e => e)
  show wpAny _ (c.A sc) (assign (.Name y py) (c.env sc) (.ref D)) _ _ _
  refine wpAny_assign_Name (storeE_L c.ok F2 N2 (fun h3 F3 N3 => ?_) hy)
  have q := N3 (C, oC) mh
  exact ⟨mC, hns.ns q.1, fun h4 hs4 => hR tk _ up1_mk _ _ hk rfl (F3.change hs4 q.2.1 q.2.2) ⟨g, hG2, ksk_news (fun p hp => N3 p (mt hp)) hs4 hnC, hne⟩ k⟩
end
end
section
section
variable {sc : Scope} {c : Cx} {m : Lc} {nw : Led} {t t' : Nat}
theorem Go.exprE {e : Expr} {pos : Pos} {rest : List Stmt} {R : Flow → Lc → Led → Nat → Prop} (hi : interactive (c.env sc) = false) (hs : swapsWith e none pos.line (c.env sc) = Pure.pure false)
    (h : Go sc c (eval e (c.env sc)) m nw t fun _ m1 nw1 t1 => Go sc c (execs rest (c.env sc)) m1 nw1 t1 R) : Go sc c (execs (.Expr e pos :: rest) (c.env sc)) m nw t R := by
  intro s Q hk ht F I k
  exact wpAny_execs_cons (wpAny_Expr_any (h s _ hk ht F I fun v h' m' nw' t' F' I' r => r _ Q hk rfl F' I' k) hi hs)
noncomputable def AppR (R : Value → Lc → Led → Nat → Prop) (D : Addr) (vs : List Value) (m1 : Lc) (nw1 : Led) (t1 : Nat) : Prop :=
  ∃ v xs n, vs = [v] ∧ (D, listOf xs.toArray n) ∈ nw1 ∧ xs.length ≤ 1000 ∧ ∀ nw', (D, listOf (xs ++ [v]).toArray (n + 1)) ∈ nw' → Keep D (listOf xs.toArray n) nw1 nw' → R .none m1 nw' t1
theorem AppR.mk {R : Value → Lc → Led → Nat → Prop} {D : Addr} {v : Value} {xs : List Value} {n : Nat} (hm : (D, listOf xs.toArray n) ∈ nw) (hz : xs.length ≤ 1000) (h : ∀ nw', (D, listOf (xs ++ [v]).toArray (n + 1)) ∈ nw' → Keep D (listOf xs.toArray n) nw nw' → R .none m nw' t) : AppR R D [v] m nw t := ⟨v, xs, n, rfl, hm, hz, h⟩
theorem Go.app {o e : Expr} {apos pos : Pos} {pl : Sem Bool} {D : Addr} {ys : List Value} {n0 : Nat} {R : Value → Lc → Led → Nat → Prop} (P : PV (gk.heap_1 c.w.params) sc c.cl m nw o t (.ref D) t') (hm : (D, listOf ys.toArray n0) ∈ nw)
    (he : eval (.Call (.Attribute o (Str.ofString "append") apos) [e] [] pos) (c.env sc) = (do
      let ov ← eval o (c.env sc)
      standAt apos.atName
      let (f, first) ← holding [ov] (getMethod ov (Str.ofString "append") pl)
      callWith pos f first (backTo pos (starEach [e] (c.env sc))) []))
    (he' : starEach [e] (c.env sc) = (false, eval e (c.env sc)) :: starEach [] (c.env sc))
    (h : Go sc c (spliced (backTo pos (starEach [e] (c.env sc)))) m nw t' (AppR R D)) : Go sc c (eval (.Call (.Attribute o (Str.ofString "append") apos) [e] [] pos) (c.env sc)) m nw t R := by
  intro s Q hk ht F I k
  have I9 := I
  obtain ⟨g, hG, N, hne⟩ := I
  subst ht
  refine MethodCall_ (pl := pl) (P.sound c.ok rfl F c.X (topRead_of c.T) (KStb.news_of N fun p hp => List.mem_append_right _ hp) ?_) he
  refine kl_method (s := { s with toks := t' }) N (List.mem_append_right _ hm) PySem.F.slot_list_append PySem.F.type_list_append ?_
  refine callWith_method1 (h { s with toks := t' } _ hk rfl F I9 fun vs h' m1 nw1 t1 F1 I1 r => ?_) he' rfl
  obtain ⟨v, xs, n, rfl, hm1, hz, r⟩ := r
  obtain ⟨g1, hG1, N1, hne1⟩ := I1
  exact append_led (s := { s with heap := h', toks := t1 }) F1 (filt_sub N1 hm1) (upd_app filt_ne fun p hp => hne1 p hp _ hm1) hz fun h2 F2 N2 => k _ _ _ _ _ F2 (Cx.Iv.mut hG1 hne1 hm1 N2) (r _ (.head _) (filt_keep N1 hm1))
theorem Go.setAt {o C dx : Addr} {es : List DictEntry} {n b : Nat} {f : Str → Option Value} {name : Str} {v : Value} {R : Unit → Lc → Led → Nat → Prop} (h1 : (o, instObj C dx) ∈ nw) (h2 : (dx, dictOf es n) ∈ nw) (h3 : Flds es f b) (hb : b ≤ 900) (hs : setOk (gk.heap_1 c.w.params) C name = true)
    (h : ∀ nw' es' n' f', (o, instObj C dx) ∈ nw' → (dx, dictOf es' n') ∈ nw' → Keep dx (dictOf es n) nw nw' → Flds es' f' (b + 1) → Up1 f f' name v → R () m nw' (t + 2)) : Go sc c (setAttr (.ref o) name v) m nw t R := by
  intro s Q hk ht F I k
  subst ht
  obtain ⟨s1, s2, s3, s4⟩ := setOk_inv hs
  obtain ⟨g, hG, N, hne⟩ := I
  have f3 := flds_put (name := name) (hsh := PyData.keyHash c.w.params name) (t := s.toks + 1) (v := v) h3
  refine set_dict (es' := putL name (PyData.keyHash c.w.params name) (.str name (s.toks + 1)) v es) (n' := putN name es n) (ox := instObj C dx) (news' := g ++ (dx, dictOf (putL name (PyData.keyHash c.w.params name) (.str name (s.toks + 1)) v es) (putN name es n)) :: nw.filter fun p => p.1 != dx) F c.X (filt_sub N h2) (InstAt.of_news N (List.mem_append_right _ h1) (List.mem_append_right _ h2)) rfl s1 s2 s3 s4 (by rw [h3.1]; rfl) rfl ?_ (Nat.le_trans f3.2 (by omega)) fun h2' F2 N2 => ?_
  · exact upd_app filt_ne fun p hp => hne p hp _ h2
  · exact k _ _ _ _ _ F2 (Cx.Iv.mut hG hne h2 N2) (h _ _ _ _ ((filt_keep N h2) _ h1 (.inl fun e => by
      have e1 := (N _ (List.mem_append_right g h1)).1
      have e2 := (N _ (List.mem_append_right g h2)).1
      rw [show (o, instObj C dx).1 = dx from e] at e1
      exact absurd (Option.some.inj (e1.symm.trans e2)) (fun z => by cases z))) (.head _) (filt_keep N h2) f3 up1_mk)
theorem Go.asAt {x name : Str} {xp q : Pos} {o : Addr} {v : Value} {R : Unit → Lc → Led → Nat → Prop} (hv : m x = some (.ref o)) (hx : locOk sc x = true) (h : Go sc c (setAttr (.ref o) name v) m nw t R) : Go sc c (assign (.Attribute (.Name x xp) name q) (c.env sc) v) m nw t R := by
  intro s Q hk ht F I k
  exact kas_attr (nameE_L c.ok F hv (h s Q hk ht F I k) hx)
theorem Go.asN {x : Str} {xp : Pos} {v : Value} {R : Unit → Lc → Led → Nat → Prop} (hx : locOk sc x = true) (h : ∀ m', Up1 m m' x v → R () m' nw (t + 1)) : Go sc c (assign (.Name x xp) (c.env sc) v) m nw t R :=
  fun s Q hk ht F I k => assign_Name (Go.store hx h s Q hk ht F I k)
noncomputable def AsT2 (sc : Scope) (c : Cx) (a b : Expr) (rest : List Stmt) (R : Flow → Lc → Led → Nat → Prop) (v : Value) (m1 : Lc) (nw1 : Led) (t1 : Nat) : Prop :=
  ∃ d k u w, v = .ref d ∧ (d, tupO [u, w] k) ∈ nw1 ∧ Go sc c (assign a (c.env sc) u) m1 nw1 t1 fun _ m2 nw2 t2 => Go sc c (assign b (c.env sc) w) m2 nw2 t2 fun _ m3 nw3 t3 => Go sc c (execs rest (c.env sc)) m3 nw3 t3 R
theorem AsT2.mk {a b : Expr} {rest : List Stmt} {R : Flow → Lc → Led → Nat → Prop} {d : Addr} {k : Nat} {u w : Value} (hm : (d, tupO [u, w] k) ∈ nw) (h : Go sc c (assign a (c.env sc) u) m nw t fun _ m2 nw2 t2 => Go sc c (assign b (c.env sc) w) m2 nw2 t2 fun _ m3 nw3 t3 => Go sc c (execs rest (c.env sc)) m3 nw3 t3 R) : AsT2 sc c a b rest R (.ref d) m nw t := ⟨d, k, u, w, rfl, hm, h⟩
theorem Go.asgT2 {a b value : Expr} {tp pos : Pos} {n : Nat} {rest : List Stmt} {R : Flow → Lc → Led → Nat → Prop} (hs : swapsWithSole [.Tuple [a, b] n tp] value pos.line (c.env sc) = Pure.pure false)
    (hw : swappedStores [.Tuple [a, b] n tp] value (c.env sc) = Pure.pure none) (he : assignEach [a, b] (c.env sc) = [(false, assign a (c.env sc)), (false, assign b (c.env sc))])
    (h : Go sc c (eval value (c.env sc)) m nw t (AsT2 sc c a b rest R)) : Go sc c (execs (.Assign [.Tuple [a, b] n tp] value pos :: rest) (c.env sc)) m nw t R := by
  intro s Q hk ht F I k
  refine wpAny_execs_cons (Assign_Tuple (h s _ hk ht F I fun v h' m1 nw1 t1 F1 I1 r1 => ?_) hs hw)
  obtain ⟨d, kk, u, w, rfl, hm, r⟩ := r1
  obtain ⟨g, hG, N, hne⟩ := I1
  refine unpackN_ (items := [u, w].toArray) F1 N ⟨_, (N _ (List.mem_append_right _ hm)).1, rfl, kk, rfl⟩ rfl (by rw [he]; rfl) (by rw [he]; rfl) fun h2 F2 N2 => ?_
  rw [he]
  refine assignInOrder_cons (r _ _ hk rfl F2 ⟨g, hG, N2, hne⟩ fun _ h3 m3 nw3 t3 F3 I3 r3 => ?_)
  refine assignInOrder_cons (r3 _ _ hk rfl F3 I3 fun _ h4 m4 nw4 t4 F4 I4 r4 => ?_)
  exact assignInOrder_nil (r4 _ Q hk rfl F4 I4 k)
end
section
variable {sc : Scope} {c : Cx} {m : Lc} {nw : Led} {t t' : Nat}
noncomputable def isBT : Value → Bool
  | .type _ => true
  | .builtin _ => true
  | _ => false
theorem callWith_bt {prog : Program} {w : World} {A : Around} {E : Value → Shared → Prop} {s : Shared} {env : Env} {pos : Pos} {bv : Value} {e : Expr} {rest : List Expr} {Q : Value → Shared → Prop} (hb : isBT bv = true)
    (h : wpAny (model prog w) A (spliced (backTo pos (starEach (e :: rest) env))) (fun vs s₁ => wpAny (model prog w) A (call bv vs) Q E s₁) E s) (he : starEach (e :: rest) env = (false, eval e env) :: starEach rest env) (hp : (backTo pos (starEach rest env)).any (·.1) = false) :
    wpAny (model prog w) A (callWith pos bv [] (backTo pos (starEach (e :: rest) env)) []) Q E s := by
  unfold isBT at hb
  split at hb
  · exact callWith_type1 h he hp
  · exact callWith_builtin1 h he hp
  · cases hb
theorem Go.callB {a : Expr} {es : List Expr} {vs : List Value} {x : Str} {xp pos : Pos} {bv : Value} {R : Value → Lc → Led → Nat → Prop} (hx : globOk sc x = true) (e : nsIn (gk.heap_1 c.w.params) mainGlobals x = some none) (hv : bootBuiltins x = some bv) (hn : x ≠ "__name__") (hb : isBT bv = true) (P : PVs (gk.heap_1 c.w.params) sc c.cl m nw (a :: es) t vs t') (h : Go sc c (call bv vs) m nw t' R) :
    Go sc c (eval (.Call (.Name x xp) (a :: es) [] pos) (c.env sc)) m nw t R := by
  intro s Q hk ht F I k
  have I9 := I
  obtain ⟨g, hG, N, hne⟩ := I
  subst ht
  refine Call_ (nameE_B c.ok F c.X (topRead_of c.T) e hv hn (callWith_bt hb (args_pure c.ok F c.X (topRead_of c.T) (KStb.news_of N fun p hp => List.mem_append_right _ hp) P (h { s with toks := t' } Q hk rfl F I9 k)) ?_ ?_) hx)
  · cases P with | cons p q => exact plain_star p
  · cases P with | cons p q => exact plain_any q
theorem Go.callBE {a : Expr} {es : List Expr} {x : Str} {xp pos : Pos} {bv : Value} {R : Value → Lc → Led → Nat → Prop} (hx : globOk sc x = true) (e : nsIn (gk.heap_1 c.w.params) mainGlobals x = some none) (hv : bootBuiltins x = some bv) (hn : x ≠ "__name__") (hb : isBT bv = true) (he : starEach (a :: es) (c.env sc) = (false, eval a (c.env sc)) :: starEach es (c.env sc)) (hp : (backTo pos (starEach es (c.env sc))).any (·.1) = false)
    (h : Go sc c (spliced (backTo pos (starEach (a :: es) (c.env sc)))) m nw t fun vs m1 nw1 t1 => Go sc c (call bv vs) m1 nw1 t1 R) : Go sc c (eval (.Call (.Name x xp) (a :: es) [] pos) (c.env sc)) m nw t R := by
  intro s Q hk ht F I k
  exact Call_ (nameE_B c.ok F c.X (topRead_of c.T) e hv hn (callWith_bt hb (h s _ hk ht F I fun vs h' m' nw' t' F' I' r => r _ Q hk rfl F' I' k) he hp) hx)
theorem Go.rng1 {n : Int} {u : Tok} {R : Value → Lc → Led → Nat → Prop} (h : ∀ r nw' t1 t9 u9 v9, (r, rangeO 0 n 1 t9 u9 v9) ∈ nw' → Sub nw nw' → Abv nw r → R (.ref r) m nw' t1) : Go sc c (call (.type "range") [.int n u]) m nw t R := by
  intro s Q hk ht F I k
  obtain ⟨g, hG, N, hne⟩ := I
  exact range_led1 F N fun r h' tk t1 u1 v1 F' N' l1 => k _ _ _ _ _ F' (Cx.Iv.push hG hne N' l1) (h r _ _ _ _ _ (.head _) (fun p hp => .tail _ hp) fun p hp => l1 p (List.mem_append_right _ hp))
theorem Go.rng2 {a b : Int} {v u : Tok} {R : Value → Lc → Led → Nat → Prop} (h : ∀ r nw' t1 t9 u9 v9, (r, rangeO a b 1 t9 u9 v9) ∈ nw' → Sub nw nw' → Abv nw r → R (.ref r) m nw' t1) : Go sc c (call (.type "range") [.int a v, .int b u]) m nw t R := by
  intro s Q hk ht F I k
  obtain ⟨g, hG, N, hne⟩ := I
  exact range_led2 F N fun r h' tk t1 u1 v1 F' N' l1 => k _ _ _ _ _ F' (Cx.Iv.push hG hne N' l1) (h r _ _ _ _ _ (.head _) (fun p hp => .tail _ hp) fun p hp => l1 p (List.mem_append_right _ hp))
end
end
section
inductive TS (K : Frag) (cs : Scope) (cl : List (Str × Addr)) (m : Str → Option Value) (nw : List (Addr × Obj)) : Expr → Nat → Bool → Nat → Prop
  | cmp {l r : Expr} {op : CmpOp} {pos : Pos} {t t1 t2 : Nat} {u v : Value} {b : Bool} (hm : behindInMarks op r = false) (p : PV K cs cl m nw l t u t1) (q : PV K cs cl m nw r t1 v t2) (hc : CP op u v b) : TS K cs cl m nw (.Compare l [op] [r] pos) t b t2
  | name {x : Str} {pos : Pos} {t : Nat} {b : Bool} (hx : locOk cs x = true) (hv : m x = some (.bool b)) : TS K cs cl m nw (.Name x pos) t b t
  | attr {e : Expr} {a : Str} {pos : Pos} {t t1 : Nat} {b : Bool} (p : PV K cs cl m nw (.Attribute e a pos) t (.bool b) t1) : TS K cs cl m nw (.Attribute e a pos) t b t1
  | sub {e i : Expr} {pos : Pos} {t t1 : Nat} {b : Bool} (p : PV K cs cl m nw (.Subscript e i pos) t (.bool b) t1) : TS K cs cl m nw (.Subscript e i pos) t b t1
  | not {e : Expr} {pos : Pos} {t t1 : Nat} {b : Bool} (p : TS K cs cl m nw e t b t1) : TS K cs cl m nw (.UnaryOp .Not e pos) t (!b) t1
  | orN {pos : Pos} {t : Nat} : TS K cs cl m nw (.BoolOp .Or [] pos) t false t
  | andN {pos : Pos} {t : Nat} : TS K cs cl m nw (.BoolOp .And [] pos) t true t
  | or {e : Expr} {rest : List Expr} {pos : Pos} {t t1 t2 : Nat} {b1 b2 : Bool} (p : TS K cs cl m nw e t b1 t1) (q : TS K cs cl m nw (.BoolOp .Or rest pos) t1 b2 t2) : TS K cs cl m nw (.BoolOp .Or (e :: rest) pos) t (b1 || b2) (cond b1 t1 t2)
  | and {e : Expr} {rest : List Expr} {pos : Pos} {t t1 t2 : Nat} {b1 b2 : Bool} (p : TS K cs cl m nw e t b1 t1) (q : TS K cs cl m nw (.BoolOp .And rest pos) t1 b2 t2) : TS K cs cl m nw (.BoolOp .And (e :: rest) pos) t (b1 && b2) (cond b1 t2 t1)
  | orT {e : Expr} {rest : List Expr} {pos : Pos} {t t1 : Nat} (p : TS K cs cl m nw e t true t1) : TS K cs cl m nw (.BoolOp .Or (e :: rest) pos) t true t1
  | andF {e : Expr} {rest : List Expr} {pos : Pos} {t t1 : Nat} (p : TS K cs cl m nw e t false t1) : TS K cs cl m nw (.BoolOp .And (e :: rest) pos) t false t1
section
variable {prog : Program} {w : World} {A : Around} {K : Frag} {h₀ : Heap} {L : Addr} {m mg mb : Str → Option Value} {env : Env} {cs : Scope} {cl : List (Str × Addr)} {p : Program} {loose : List Str} {nw : List (Addr × Obj)} {t' : Nat} {e : Expr}
noncomputable def isBo : Expr → Bool
  | .BoolOp .. => true
  | _ => false
theorem TS.sound {t : Nat} {b : Bool} (eo : EnvOk env cs L cl) (P : TS K cs cl m nw e t b t') : ∀ {s : Shared} {Q : Bool → Shared → Prop} {E : Value → Shared → Prop} {whole : Sem Value} (_ : isBo e = false → whole = eval e env) (_ : s.toks = t) (_F : Fr h₀ L s.heap m) (_X : K.In h₀) (_T : TopRead p loose mg mb h₀) (_N : News h₀ L s.heap nw) (_h : Q b { s with toks := t' }), wpAny (model prog w) A (isTrue e env whole) Q E s := by
  induction P with
  | cmp hm p q hc =>
    intro s Q E whole hw ht F X T N h
    subst ht
    exact cmp_pure eo F X T N p q hm (hc.sound (wpAny_truthy_bool h))
  | name hx hv =>
    intro s Q E whole hw ht F X T N h
    subst ht
    rw [hw rfl]
    exact isTrue_plain ((PV.loc hx hv).sound eo rfl F X T N (wpAny_truthy_bool h))
  | attr p =>
    intro s Q E whole hw ht F X T N h
    subst ht
    rw [hw rfl]
    exact isTrue_plain (p.sound eo rfl F X T N (wpAny_truthy_bool h))
  | sub p =>
    intro s Q E whole hw ht F X T N h
    subst ht
    rw [hw rfl]
    exact isTrue_plain (p.sound eo rfl F X T N (wpAny_truthy_bool h))
  | not p ih =>
    intro s Q E whole hw ht F X T N h
    exact isTrue_not (ih (fun _ => rfl) ht F X T N h)
  | orN => intro s Q E whole hw ht F X T N h; subst ht; exact isTrue_or_nil h
  | andN => intro s Q E whole hw ht F X T N h; subst ht; exact isTrue_and_nil h
  | or p q ih1 ih2 =>
    intro s Q E whole hw ht F X T N h
    subst ht
    rename_i e rest pos t1 t2 b1 b2
    refine isTrue_or (ih1 (fun _ => rfl) rfl F X T N ?_)
    cases b1
    · exact ih2 (s := { s with toks := t1 }) (fun z => nomatch z) rfl F X T N h
    · exact h
  | and p q ih1 ih2 =>
    intro s Q E whole hw ht F X T N h
    subst ht
    rename_i e rest pos t1 t2 b1 b2
    refine isTrue_and (ih1 (fun _ => rfl) rfl F X T N ?_)
    cases b1
    · exact h
    · exact ih2 (s := { s with toks := t1 }) (fun z => nomatch z) rfl F X T N h
  | orT p ih =>
    intro s Q E whole hw ht F X T N h
    exact isTrue_or (ih (fun _ => rfl) ht F X T N h)
  | andF p ih =>
    intro s Q E whole hw ht F X T N h
    exact isTrue_and (ih (fun _ => rfl) ht F X T N h)
end
section
variable {sc : Scope} {c : Cx} {m : Lc} {nw : Led} {t t' : Nat}
theorem Go.test {e : Expr} {b : Bool} {R : Bool → Lc → Led → Nat → Prop} (P : TS (gk.heap_1 c.w.params) sc c.cl m nw e t b t') (h : R b m nw t') : Go sc c (isTrue e (c.env sc) (eval e (c.env sc))) m nw t R := by
  intro s Q hk ht F I k
  have I9 := I
  obtain ⟨g, hG, N, hne⟩ := I
  exact P.sound c.ok (fun _ => rfl) ht F c.X (topRead_of c.T) (KStb.news_of N fun p hp => List.mem_append_right _ hp) (k _ s.heap _ _ _ F I9 h)
end
end
section
theorem cl_look {c : Cx} {l : List (Str × Addr)} {x : Str} {a : Addr} (h : c.cl = l) (e : l.lookup x = some a) : c.cl.lookup x = some a := h ▸ e
noncomputable def CellsIn (cm : Str → Option Value) (cl : List (Str × Addr)) (nw : Led) : Prop := ∀ x a, (x, a) ∈ cl → ∃ o, (a, o) ∈ nw ∧ o.data = .cell (cm x)
theorem cellsIn_of {cm : Str → Option Value} {cl : List (Str × Addr)} {cells : Led} (h : CellsAre cm cl cells) : CellsIn cm cl cells := by
  induction h with
  | nil => intro x a h; cases h
  | cons hd _ ih =>
    intro x a h
    rcases List.mem_cons.mp h with e | h
    · cases e; exact ⟨_, mh, hd⟩
    · obtain ⟨o, h1, h2⟩ := ih x a h
      exact ⟨o, mt h1, h2⟩
theorem cells_addr {cm : Str → Option Value} {cl : List (Str × Addr)} {cells : Led} (h : CellsAre cm cl cells) : ∀ p ∈ cells, ∃ x, (x, p.1) ∈ cl := by
  induction h with
  | nil => intro p hp; cases hp
  | cons hd _ ih =>
    intro p hp
    rcases List.mem_cons.mp hp with rfl | hp
    · exact ⟨_, mh⟩
    · obtain ⟨x, hx⟩ := ih p hp
      exact ⟨x, mt hx⟩
theorem cellsFrom_lt : ∀ (names : List (Str × NameKind)) (n k : Nat) (acc : List (Str × Addr)), (∀ y ∈ acc, @LT.lt Nat _ k y.2) → @LT.lt Nat _ k n → ∀ y ∈ cellsFrom n names acc, @LT.lt Nat _ k y.2
  | [], _, _, _, h, _ => h
  | (x, kd) :: r, n, k, acc, h, hn => by
    unfold cellsFrom
    split
    · refine cellsFrom_lt r (n + 1) k _ (fun y hy => ?_) (Nat.lt_succ_of_lt hn)
      rcases List.mem_cons.mp hy with rfl | hy
      · exact hn
      · exact h y hy
    · exact cellsFrom_lt r n k acc h hn
section
variable {sc : Scope} {c : Cx} {m : Lc} {nw : Led} {t t' : Nat}
theorem Go.enterC {f : Addr} {vs : List Value} {name qual : Str} {params : Arguments} {body : List Stmt} {scope : Scope} {dV kV doc pm cdv ct oc : Value} {an od : Option Addr} {osl : Array (Option Value)} {R : Value → Lc → Led → Nat → Prop}
    (ho : (gk.heap_1 c.w.params).lookup f = some ⟨oc, od, .func (fnOf name qual params body scope dV kV doc pm an cdv ct), osl⟩) (hcd : codeIn (gk.heap_1 c.w.params) cdv qual = true) (hdp : c.dp < recursionLimit)
    (hbind : ∀ s, (gk.heap_1 c.w.params).In s.heap → BindsTo s (fnOf name qual params body scope dV kV doc pm an cdv ct) ⟨vs, []⟩ ((params.args.map fun x => x.arg).zip vs)) (hkind : (((params.args.map fun x => x.arg).zip vs).all fun y => scope.names.lookup y.1 == some .local || scope.names.lookup y.1 == some .cell) = true)
    (hnd : ((cellsFrom 0 scope.names []).map (·.1)).Nodup) (hco : scope.isCoroutine = false) (hgen : scope.isGenerator = false) (hkk : scope.kind = .function)
    (h : ∀ (c1 : Cx) (L' : Addr) (m0 : Lc) (nw0 : Led) (t0 : Nat), c1.dp = c.dp + 1 → c1.un = c.un + 3 → c1.G = c.G → c1.fsc = none → c1.cl = cellsFrom (L' + 1) scope.names [] → m0 = bindL (fun x => scope.names.lookup x) ((params.args.map fun x => x.arg).zip vs) (fun _ => none) → Sub nw nw0 → Abv nw L' → CellsIn (bindC (fun x => scope.names.lookup x) ((params.args.map fun x => x.arg).zip vs) fun _ => none) (cellsFrom (L' + 1) scope.names []) nw0 →
      Go scope c1 (execs body (c1.env scope)) m0 nw0 t0 (RetR R m)) :
    Go sc c (call (.ref f) vs) m nw t R := by
  intro s Q hk ht F I k
  obtain ⟨mf, g, Hf, hfk, Ff, hg, hgH, N, hne, back⟩ := c.view hk F I
  subst ht
  refine wpAny_call ?_
  refine PySem.W.code_defC (A₀ := c.A₀) (base := c.base) (env := envX c.cn (c.fsc.getD sc) c.fL c.ca c.ccd c.fcl) (outer := c.outer) c.B Ff c.X N c.T rfl rfl hfk ho hcd hdp (hbind s (c.X.keeps Ff.keep)) hkind hnd ?_ hco hgen hkk
  intro g' L' h2 tk cells FG F2 N2 CA B2 X2 T2 lt
  let c1 : Cx := { c with A₀ := c.A sc, base := c.base, outer := envX c.cn (c.fsc.getD sc) c.fL c.ca c.ccd c.fcl :: c.outer, dp := c.dp + 1, un := c.un + 3, gd := c.gd, cn := qual, ca := f, ccd := cdv, cl := cellsFrom (L' + 1) scope.names [], h₀ := g', L := L', fsc := none, fL := L', fcl := cellsFrom (L' + 1) scope.names [], fn := some f, B := B2, X := X2, T := T2, H := fun l => l = Hf, fw := .inl ⟨rfl, rfl, rfl⟩ }
  refine wpAny_mono (E := NoE) ?_ (fun _ _ z => z) fun _ _ z => z.elim
  have cl1 : ∀ p ∈ cells, @LT.lt Nat _ L' p.1 := fun p hp => by
    obtain ⟨x, hx⟩ := cells_addr CA p hp
    exact cellsFrom_lt scope.names (L' + 1) L' [] (fun y hy => by cases hy) (Nat.lt_succ_self _) _ hx
  refine h c1 L' _ (cells ++ nw) _ rfl rfl rfl rfl rfl rfl (fun p hp => mr hp) (fun p hp => lt p (mr hp)) (fun x a hx => ?_) { s with heap := h2, toks := tk } _ hkk rfl F2 ⟨_, ⟨g, Hf, hg, rfl, rfl, hgH⟩, KStb.news_of N2 fun p hp => ?_, fun p hp q hq => ?_⟩ fun fl h' m' nw' t' F' I' r => ?_
  · obtain ⟨o, h1, h2⟩ := cellsIn_of CA x a hx
    exact ⟨o, ml h1, h2⟩
  · rcases List.mem_append.mp hp with hp | hp
    · exact mr (ml hp)
    · rcases List.mem_append.mp hp with hp | hp
      · exact ml hp
      · exact mr (mr hp)
  · rcases List.mem_append.mp hq with hq | hq
    · exact Nat.ne_of_lt (Nat.lt_trans (lt p (ml hp)) (cl1 q hq))
    · exact hne p hp q hq
  obtain ⟨_, ⟨g2, l2, hG2, e2, rfl, hd2⟩, N', hne'⟩ := I'
  cases e2
  exact leaveK_ F' N' fun kF kN => by
    obtain ⟨b1, b2⟩ := back _ _ _ kF hG2 hd2 kN hne'
    cases fl <;> exact k _ _ _ _ _ b1 b2 r
theorem Go.storeC {x : Str} {a : Addr} {o : Obj} {u : Option Value} {v : Value} {R : Unit → Lc → Led → Nat → Prop} (hx : cellOk sc x = true) (hc : c.cl.lookup x = some a) (hm : (a, o) ∈ nw) (hd : o.data = .cell u)
    (h : ∀ nw' o', (a, o') ∈ nw' → o'.data = .cell (some v) → Keep a o nw nw' → R () m nw' t) : Go sc c (storeName (c.env sc) x v) m nw t R := by
  intro s Q hk ht F I k
  subst ht
  obtain ⟨h1, h2, h3⟩ := cellOk_inv hx
  obtain ⟨g, hG, N, hne⟩ := I
  have q := N (a, o) (mr hm)
  refine wpAny_storeName_cell (env := c.env sc) h1 h2 hc ⟨o, q.1, hd⟩ fun h' hv hs => ?_
  obtain ⟨o', ho', hd'⟩ := hv
  refine k _ _ _ _ _ (F.change hs q.2.1 q.2.2) (Cx.Iv.mut (o' := o') hG hne hm ?_) (h _ o' mh hd' (filt_keep N hm))
  have U : Upd a o o' (g ++ (a, o) :: nw.filter fun p => p.1 != a) (g ++ (a, o') :: nw.filter fun p => p.1 != a) := upd_app filt_ne fun p hp => hne p hp _ hm
  obtain ⟨pre, post, e1, e2, z1, z2⟩ := U.split
  have w := news_set (pre := pre) (post := post) (by rw [← e1]; exact filt_sub N hm) z1 z2 hs ho'
  rw [← e2] at w
  exact w
theorem Go.asNC {x : Str} {xp : Pos} {a : Addr} {o : Obj} {u : Option Value} {v : Value} {R : Unit → Lc → Led → Nat → Prop} (hx : cellOk sc x = true) (hc : c.cl.lookup x = some a) (hm : (a, o) ∈ nw) (hd : o.data = .cell u)
    (h : ∀ nw' o', (a, o') ∈ nw' → o'.data = .cell (some v) → Keep a o nw nw' → R () m nw' t) : Go sc c (assign (.Name x xp) (c.env sc) v) m nw t R :=
  fun s Q hk ht F I k => assign_Name (Go.storeC hx hc hm hd h s Q hk ht F I k)
noncomputable def CelR (sc : Scope) (c : Cx) (x : Str) (rest : List Stmt) (R : Flow → Lc → Led → Nat → Prop) (v : Value) (m1 : Lc) (nw1 : Led) (t1 : Nat) : Prop := Go sc c (storeName (c.env sc) x v) m1 nw1 t1 fun _ m2 nw2 t2 => Go sc c (execs rest (c.env sc)) m2 nw2 t2 R
theorem CelR.mk {x : Str} {rest : List Stmt} {R : Flow → Lc → Led → Nat → Prop} {v : Value} (h : Go sc c (storeName (c.env sc) x v) m nw t fun _ m2 nw2 t2 => Go sc c (execs rest (c.env sc)) m2 nw2 t2 R) : CelR sc c x rest R v m nw t := h
theorem Go.asgC {e : Expr} {x : Str} {pos' pos : Pos} {rest : List Stmt} {R : Flow → Lc → Led → Nat → Prop} (hx : cellOk sc x = true) (hs : swapsWith e (some (.Name x pos')) pos.line (c.env sc) = Pure.pure false)
    (h : Go sc c (eval e (c.env sc)) m nw t (CelR sc c x rest R)) : Go sc c (execs (.Assign [.Name x pos'] e pos :: rest) (c.env sc)) m nw t R := by
  intro s Q hk ht F I k
  exact wpAny_execs_cons (wpAny_Assign_Name (h s _ hk ht F I fun v h' m' nw' t' F' I' r => r _ _ hk rfl F' I' fun _ h2 m2 nw2 t2 F2 I2 r2 => r2 _ Q hk rfl F2 I2 k) hs)
end
end
section
noncomputable def isOk (K : Frag) (D : Addr) : Bool := plainGet K D "__class__" && hasDictIn K D && (findIn K (.ref D) "__class__" == some (some (.builtin "object.__class__"))) && (specialIn K (.builtin "object.__class__") "__get__" == some (some (.builtin "getset_descriptor.__get__"))) && (takesIn K (.builtin "object.__class__") == some true) && (mroIn K D (.type "object") == some true)
theorem isOk_inv {K : Frag} {x D : Addr} {ox od : Obj} (h : isOk K D = true) : KitX K (.ref x) (.ref D) (fun h => InstAt h x ox D (some od)) := by
  unfold isOk at h
  simp only [Bool.and_eq_true, beq_iff_eq] at h
  obtain ⟨⟨⟨⟨⟨h1, h2⟩, h3⟩, h4⟩, h5⟩, h6⟩ := h
  exact kitx_own h1 h2 h3 h4 h5 h6
section
variable {prog : Program} {w : World} {A : Around} {E : Value → Shared → Prop} {s : Shared} {h₀ : Heap} {L l : Addr} {m : Str → Option Value} {news : List (Addr × Obj)} {vs : List Value} {k : Nat} {x y z v4 : Value} {n : Nat} {u : Tok}
theorem two_new {h : Heap} (F : Fr h₀ L h m) (N : News h₀ L h news) (a b : Obj) (ha : a.isFreed = false := by rfl) (hb : b.isFreed = false := by rfl) :
    Fr h₀ L ((h.push a).push b) m ∧ News h₀ L ((h.push a).push b) (((h.push a).objs.size, b) :: news) ∧ ∀ p ∈ news, p.1 < (h.push a).objs.size :=
  have N2 := (N.push F a ha).push (F.push a) b hb
  ⟨(F.push a).push b, KStb.news_of N2 fun _ hp => (List.mem_cons.mp hp).elim (fun e => e ▸ .head _) fun hp => .tail _ (.tail _ hp), fun p hp => Heap.lt_size ((N.push F a ha) p (.tail _ hp)).1⟩
theorem slice_any {value slice : Expr} {vl vu : Value} {lo hi : Option Int} {Q : Value → Shared → Prop} (F : Fr h₀ L s.heap m) (N : News h₀ L s.heap news) (hm : (l, listOf vs.toArray k) ∈ news) (pl : IsPart vl lo) (pu : IsPart vu hi) (hz : vs.length ≤ 1000)
    (h : ∀ D h', Fr h₀ L h' m → News h₀ L h' ((D, { cls := .type "list", data := .seq (slicePick vs.toArray lo hi none) }) :: news) → (∀ p ∈ news, p.1 < D) → Q (.ref D) { s with heap := h' })
    (hs : subscripted slice false (.ref l) (.ref s.heap.objs.size) = operate [.ref s.heap.objs.size, .ref l] (getItem (.ref l) (.ref s.heap.objs.size))) :
    wpAny (model prog w) A (subscriptTail value slice (.ref l) (.ref s.heap.objs.size)) Q E { s with heap := s.heap.push { cls := .type "slice", data := .fields #[vl, vu, .none] } } := by
  obtain ⟨F2, N2, lt⟩ := two_new F N { cls := .type "slice", data := .fields #[vl, vu, .none] } { cls := .type "list", data := .seq (slicePick vs.toArray lo hi none) }
  have hl : Heap.IsList (s.heap.push { cls := .type "slice", data := .fields #[vl, vu, .none] }) l vs.toArray := Heap.IsList.push (PySem.IsL.isList (n := k) (N _ hm).1) _
  exact tail_any (s := { s with heap := _ }) hl.typeIs list_getitem_lookup (wpAny_getItem_list_slice hl (Heap.IsSliceOf.new ..) pl pu .none (by simp) (h _ _ F2 N2 lt) (by rw [List.size_toArray, sizeLine_eq]; omega)) hs
theorem first_two {t sl : Addr} {Q : Value → Shared → Prop} (ht : IsTup s.heap t #[x, y, z]) (hs : s.heap.IsSliceOf sl .none (.int 2 u) .none) (h : Q (.ref s.heap.objs.size) { s with heap := s.heap.push (tupO [x, y] 0) }) :
    wpAny (model prog w) A (getItem (.ref t) (.ref sl)) Q E s := by
  refine getItem_slot ht.typeIs (by decide) slot_tuple_getitem (wpAny_call_entry slot_tuple_getitem ht.typeIs entry_tuple_getitem ?_ (args_tuple_getitem _ _))
  obtain ⟨o, e1, e2, e3⟩ := hs
  have parts : ∀ {B : Around} {X : Value → Shared → Prop} {P : Value × Value × Value → Shared → Prop}, P (.none, .int 2 u, .none) s → wpAny (model prog w) B (Builtin.Slice.sliceFields (.ref sl)) P X s := fun hp =>
    wpAny_bind (wpAny_field e1 e3 rfl (wpAny_bind (wpAny_field e1 e3 rfl (wpAny_bind (wpAny_field e1 e3 rfl (wpAny_pure hp))))))
  have cut : ∀ {B : Around} {X : Value → Shared → Prop} {P : Int × Int × Nat → Shared → Prop}, P (0, 1, 2) s → wpAny (model prog w) B (Builtin.Slice.sliceApplied (.ref sl) (pure (3 : Int))) P X s := by
    intro B X P hp
    have hn : ∀ {S : Option Int → Shared → Prop}, S none s → wpAny (model prog w) B (Builtin.Slice.slicePartIndex .none) S X s := slicePart_none
    refine wpAny_bind (parts (wpAny_bind (hn ?_)))
    rw [if_neg (by decide)]
    exact wpAny_bind (hn (wpAny_bind (slicePart_int (wpAny_bind (wpAny_pure (wpAny_pure hp))))))
  refine wpAny_bind (m := Builtin.Tuple.tupleItemsOf (.ref t)) (tupleItemsOf_ ht (wpAny_bind (wpAny_typeOf (T := "slice") ⟨o, e1, e2⟩ ?_)))
  rw [if_pos (by decide)]
  refine wpAny_bind (cut ?_)
  dsimp only
  rw [if_neg (show ¬ ((0 : Int) == 0 && (1 : Int) == 1 && 2 == (#[x, y, z] : Array Value).size) = true from Bool.false_ne_true)]
  exact wpAny_bind (m := Builtin.Tuple.tupleExact _) (wpAny_newObj_type (wpAny_pure ⟨_, rfl, h⟩) (show 2 ≤ sizeLine by rw [sizeLine_eq]; exact Nat.le_of_ble_eq_true rfl))
theorem slice_tup2x {value slice : Expr} {Q : Value → Shared → Prop} (F : Fr h₀ L s.heap m) (N : News h₀ L s.heap news) (hm : (l, tupO [x, y, z] n) ∈ news)
    (h : ∀ D h', Fr h₀ L h' m → News h₀ L h' ((D, tupO [x, y] 0) :: news) → (∀ p ∈ news, p.1 < D) → Q (.ref D) { s with heap := h' })
    (hs : subscripted slice false (.ref l) (.ref s.heap.objs.size) = operate [.ref s.heap.objs.size, .ref l] (getItem (.ref l) (.ref s.heap.objs.size))) :
    wpAny (model prog w) A (subscriptTail value slice (.ref l) (.ref s.heap.objs.size)) Q E { s with heap := s.heap.push { cls := .type "slice", data := .fields #[.none, .int 2 u, .none] } } := by
  obtain ⟨F2, N2, lt⟩ := two_new F N { cls := .type "slice", data := .fields #[.none, .int 2 u, .none] } (tupO [x, y] 0)
  have ht : IsTup (s.heap.push { cls := .type "slice", data := .fields #[.none, .int 2 u, .none] }) l #[x, y, z] := ⟨_, Heap.get?_push_of_some _ (N _ hm).1, rfl, n, rfl⟩
  exact tail_any (s := { s with heap := _ }) ht.typeIs slot_tuple_getitem.lookup (first_two ht (Heap.IsSliceOf.new ..) (h _ _ F2 N2 lt)) hs
theorem slice_tup13x {value slice : Expr} {Q : Value → Shared → Prop} (F : Fr h₀ L s.heap m) (N : News h₀ L s.heap news) (hm : (l, tupO [x, y, z, v4] n) ∈ news)
    (h : ∀ D h', Fr h₀ L h' m → News h₀ L h' ((D, tupO [y, z, v4] 0) :: news) → (∀ p ∈ news, p.1 < D) → Q (.ref D) { s with heap := h' })
    (hs : subscripted slice false (.ref l) (.ref s.heap.objs.size) = operate [.ref s.heap.objs.size, .ref l] (getItem (.ref l) (.ref s.heap.objs.size))) :
    wpAny (model prog w) A (subscriptTail value slice (.ref l) (.ref s.heap.objs.size)) Q E { s with heap := s.heap.push { cls := .type "slice", data := .fields #[.int 1 u, .none, .none] } } := by
  obtain ⟨F2, N2, lt⟩ := two_new F N { cls := .type "slice", data := .fields #[.int 1 u, .none, .none] } (tupO [y, z, v4] 0)
  have ht : IsTup (s.heap.push { cls := .type "slice", data := .fields #[.int 1 u, .none, .none] }) l #[x, y, z, v4] := ⟨_, Heap.get?_push_of_some _ (N _ hm).1, rfl, n, rfl⟩
  exact tail_any (s := { s with heap := _ }) ht.typeIs slot_tuple_getitem.lookup (getItem_tuple_from (a := 1) (u := u) ht (Heap.IsSliceOf.new ..) (Nat.le_refl _) (Nat.le_of_ble_eq_true rfl) (h _ _ F2 N2 lt) (by rw [sizeLine_eq]; exact Nat.le_of_ble_eq_true rfl)) hs
end
section
variable {sc : Scope} {c : Cx} {m : Lc} {nw : Led} {t t' : Nat}
theorem Go.nat {α : Type} {x : Sem α} {v : α} {R : α → Lc → Led → Nat → Prop} (h : ∀ (prog : Program) (w : World) (A : Around) (s : Shared) (Q : α → Shared → Prop) (E : Value → Shared → Prop), (∀ tk, Q v { s with toks := tk }) → wpAny (model prog w) A x Q E s) (hR : ∀ t', R v m nw t') : Go sc c x m nw t R :=
  fun s Q _ _ F I k => h _ _ _ s _ _ fun _ => k _ s.heap _ _ _ F I (hR _)
theorem Go.isin1 {x C D dx : Addr} {es : List DictEntry} {n : Nat} {b : Bool} {R : Value → Lc → Led → Nat → Prop} (h1 : (x, instObj D dx) ∈ nw) (h2 : (dx, dictOf es n) ∈ nw) (hk : isOk (gk.heap_1 c.w.params) D = true) (e : kitOne (gk.heap_1 c.w.params) (.ref D) (.ref C) = some b) (hR : ∀ t', R (.bool b) m nw t') :
    Go sc c (call (.builtin "isinstance") [.ref x, .ref C]) m nw t R := by
  intro s Q _ _ F I k
  have I9 := I
  obtain ⟨g, hG, N, hne⟩ := I
  exact kia_one (isOk_inv hk) (c.X.keeps F.keep) (InstAt.of_news N (mr h1) (mr h2)) e (by intro q; cases q) fun _ => k _ s.heap _ _ _ F I9 (hR _)
theorem Go.isinT {x D dx T : Addr} {es : List DictEntry} {n k9 : Nat} {its : List Value} {b : Bool} {R : Value → Lc → Led → Nat → Prop} (h1 : (x, instObj D dx) ∈ nw) (h2 : (dx, dictOf es n) ∈ nw) (hT : (T, tupO its k9) ∈ nw) (hk : isOk (gk.heap_1 c.w.params) D = true) (e : kitAny (gk.heap_1 c.w.params) (.ref D) its = some b) (hR : ∀ t', R (.bool b) m nw t') :
    Go sc c (call (.builtin "isinstance") [.ref x, .ref T]) m nw t R := by
  intro s Q _ _ F I k
  have I9 := I
  obtain ⟨g, hG, N, hne⟩ := I
  exact kia_tup (isOk_inv hk) (c.X.keeps F.keep) (InstAt.of_news N (mr h1) (mr h2)) (N _ (mr hT)).1 e (by intro q; cases q) fun _ => k _ s.heap _ _ _ F I9 (hR _)
noncomputable def methOk (K : Frag) (C f : Addr) (a : Str) : Bool := plainGet K C a && (findIn K (.ref C) a == some (some (.ref f))) && isFn K (.ref f) && keepIn K (.ref f)
theorem Go.meth {o : Expr} {es : List Expr} {name : Str} {apos pos : Pos} {pl : Sem Bool} {x C dx f : Addr} {ds : List DictEntry} {n b : Nat} {fs : Str → Option Value} {vs : List Value} {t1 : Nat} {R : Value → Lc → Led → Nat → Prop} (P : PV (gk.heap_1 c.w.params) sc c.cl m nw o t (.ref x) t1) (h1 : (x, instObj C dx) ∈ nw) (h2 : (dx, dictOf ds n) ∈ nw) (h3 : Flds ds fs b) (hl : fs name = none) (_hf0 : findIn (gk.heap_1 c.w.params) (.ref C) name = some (some (.ref f))) (hf : methOk (gk.heap_1 c.w.params) C f name = true)
    (he : eval (.Call (.Attribute o name apos) es [] pos) (c.env sc) = (do
      let ov ← eval o (c.env sc)
      standAt apos.atName
      let (f, first) ← holding [ov] (getMethod ov name pl)
      callWith pos f first (backTo pos (starEach es (c.env sc))) []))
    (Ps : PVs (gk.heap_1 c.w.params) sc c.cl m nw es t1 vs t') (h : Go sc c (call (.ref f) (.ref x :: vs)) m nw t' R) : Go sc c (eval (.Call (.Attribute o name apos) es [] pos) (c.env sc)) m nw t R := by
  intro s Q hk ht F I k
  have I9 := I
  obtain ⟨g, hG, N, hne⟩ := I
  subst ht
  unfold methOk at hf
  simp only [Bool.and_eq_true, beq_iff_eq] at hf
  obtain ⟨⟨⟨f1, f2⟩, f3⟩, f4⟩ := hf
  have N2 := KStb.news_of N fun p hp => List.mem_append_right g hp
  refine MethodCall_ (pl := pl) (P.sound c.ok rfl F c.X (topRead_of c.T) N2 ?_) he
  refine method_inst (s := { s with toks := t1 }) (es := ds) (n := n) F c.X (InstAt.of_news N (mr h1) (mr h2)) f1 f2 f3 (by rw [h3.1, hl]) ?_
  exact callWith_pure (s := { s with toks := t1 }) c.ok F c.X (topRead_of c.T) N2 f4 Ps (h { s with toks := t' } Q hk rfl F I9 k)
theorem Go.pop0 {o : Expr} {k9 : Nat} {kp apos pos : Pos} {pl : Sem Bool} {D : Addr} {v : Value} {vs : List Value} {n : Nat} {t1 : Nat} {R : Value → Lc → Led → Nat → Prop} (P : PV (gk.heap_1 c.w.params) sc c.cl m nw o t (.ref D) t1) (hm : (D, listOf (v :: vs).toArray n) ∈ nw) (hz : vs.length ≤ 1000)
    (he : eval (.Call (.Attribute o (Str.ofString "pop") apos) [.Constant (.int 0) k9 kp] [] pos) (c.env sc) = (do
      let ov ← eval o (c.env sc)
      standAt apos.atName
      let (f, first) ← holding [ov] (getMethod ov (Str.ofString "pop") pl)
      callWith pos f first (backTo pos (starEach [.Constant (.int 0) k9 kp] (c.env sc))) []))
    (h : ∀ nw' t', (D, listOf vs.toArray (n + 1)) ∈ nw' → Keep D (listOf (v :: vs).toArray n) nw nw' → R v m nw' t') : Go sc c (eval (.Call (.Attribute o (Str.ofString "pop") apos) [.Constant (.int 0) k9 kp] [] pos) (c.env sc)) m nw t R := by
  intro s Q hk ht F I k
  obtain ⟨g, hG, N, hne⟩ := I
  subst ht
  refine MethodCall_ (pl := pl) (P.sound c.ok rfl F c.X (topRead_of c.T) (KStb.news_of N fun p hp => List.mem_append_right _ hp) ?_) he
  refine kl_method (s := { s with toks := t1 }) N (List.mem_append_right _ hm) PySem.F.slot_list_pop PySem.F.type_list_pop ?_
  refine callWith_method1 (args_cons (wpAny_Constant_int (args_nil ?_)) rfl) rfl rfl
  exact pop_led (s := { s with toks := t1 + 1 }) F (filt_sub N hm) (upd_app filt_ne fun p hp => hne p hp _ hm) hz fun h2 F2 N2 => k _ _ _ _ _ F2 (Cx.Iv.mut hG hne hm N2) (h _ _ (.head _) (filt_keep N hm))
noncomputable def BoR (R : Bool → Lc → Led → Nat → Prop) (v : Value) (m : Lc) (nw : Led) (t : Nat) : Prop := ∃ q, v = .bool q ∧ R q m nw t
theorem BoR.mk {R : Bool → Lc → Led → Nat → Prop} {q : Bool} (h : R q m nw t) : BoR R (.bool q) m nw t := ⟨q, rfl, h⟩
noncomputable def CmH (sc : Scope) (c : Cx) (op : CmpOp) (a : Value) (R : Value → Lc → Led → Nat → Prop) (b : Value) (m : Lc) (nw : Led) (t : Nat) : Prop := Go sc c (compareOp op a b) m nw t R
noncomputable def CmG (sc : Scope) (c : Cx) (op : CmpOp) (r : Expr) (R : Value → Lc → Led → Nat → Prop) (a : Value) (m : Lc) (nw : Led) (t : Nat) : Prop := Go sc c (eval r (c.env sc)) m nw t (CmH sc c op a R)
theorem CmH.mk {op : CmpOp} {a b : Value} {R : Value → Lc → Led → Nat → Prop} (h : Go sc c (compareOp op a b) m nw t R) : CmH sc c op a R b m nw t := h
theorem CmG.mk {op : CmpOp} {r : Expr} {a : Value} {R : Value → Lc → Led → Nat → Prop} (h : Go sc c (eval r (c.env sc)) m nw t (CmH sc c op a R)) : CmG sc c op r R a m nw t := h
theorem Go.cmpG {l r : Expr} {op : CmpOp} {pos : Pos} {whole : Sem Value} {R : Bool → Lc → Led → Nat → Prop} (hm : behindInMarks op r = false) (h : Go sc c (eval l (c.env sc)) m nw t (CmG sc c op r (BoR R))) :
    Go sc c (isTrue (.Compare l [op] [r] pos) (c.env sc) whole) m nw t R := by
  intro s Q hk ht F I k
  refine wpAny_isTrue_Compare1 (h s _ hk ht F I fun a h' m1 nw1 t1 F1 I1 r1 => r1 _ _ hk rfl F1 I1 fun b h2 m2 nw2 t2 F2 I2 r2 => r2 _ _ hk rfl F2 I2 fun v h3 m3 nw3 t3 F3 I3 r3 => ?_) hm
  obtain ⟨q, rfl, r4⟩ := r3
  exact wpAny_truthy_bool (k _ _ _ _ _ F3 I3 r4)
theorem Go.cmpVG {l r : Expr} {op : CmpOp} {pos : Pos} {R : Value → Lc → Led → Nat → Prop} (hm : behindInMarks op r = false) (h : Go sc c (eval l (c.env sc)) m nw t (CmG sc c op r R)) :
    Go sc c (eval (.Compare l [op] [r] pos) (c.env sc)) m nw t R := by
  intro s Q hk ht F I k
  exact wpAny_Compare1 (h s _ hk ht F I fun a h' m1 nw1 t1 F1 I1 r1 => r1 _ _ hk rfl F1 I1 fun b h2 m2 nw2 t2 F2 I2 r2 => r2 _ Q hk rfl F2 I2 k) hm
theorem Go.co {op : CmpOp} {a b : Value} {q : Bool} {R : Value → Lc → Led → Nat → Prop} (C : CP op a b q) (h : R (.bool q) m nw t) : Go sc c (compareOp op a b) m nw t R := by
  intro s Q hk ht F I k
  subst ht
  exact C.sound (k _ s.heap _ _ _ F I h)
theorem Cx.units {c : Cx} {sc : Scope} : (c.A sc).units = c.un := rfl
theorem Go.ne0 {l D : Addr} {vs : List Value} {k n : Nat} {R : Value → Lc → Led → Nat → Prop} (hm : (l, listOf vs.toArray k) ∈ nw) (hm2 : (D, listOf ([] : List Value).toArray n) ∈ nw) (hu : c.un < cLine) (h : R (.bool (decide (vs.length ≠ 0))) m nw t) : Go sc c (compareOp .NotEq (.ref l) (.ref D)) m nw t R := by
  intro s Q hk ht F I k
  have I9 := I
  obtain ⟨g, hG, N, hne⟩ := I
  subst ht
  exact ne_nil N (mr hm) (mr hm2) hu (k _ s.heap _ _ _ F I9 h)
theorem Go.eq0 {l D : Addr} {vs : List Value} {k n : Nat} {R : Value → Lc → Led → Nat → Prop} (hm : (l, listOf vs.toArray k) ∈ nw) (hm2 : (D, listOf ([] : List Value).toArray n) ∈ nw) (hu : c.un < cLine) (h : R (.bool (decide (vs.length = 0))) m nw t) : Go sc c (compareOp .Eq (.ref l) (.ref D)) m nw t R := by
  intro s Q hk ht F I k
  have I9 := I
  obtain ⟨g, hG, N, hne⟩ := I
  subst ht
  exact eq_nil N (mr hm) (mr hm2) hu (k _ s.heap _ _ _ F I9 h)
theorem Go.testO {e : Expr} {rest : List Expr} {pos : Pos} {whole : Sem Value} {R : Bool → Lc → Led → Nat → Prop} (h : Go sc c (isTrue e (c.env sc) (eval e (c.env sc))) m nw t fun b m1 nw1 t1 => cond b (R true m1 nw1 t1) (Go sc c (isTrue (.BoolOp .Or rest pos) (c.env sc) whole) m1 nw1 t1 R)) : Go sc c (isTrue (.BoolOp .Or (e :: rest) pos) (c.env sc) whole) m nw t R := by
  intro s Q hk ht F I k
  refine isTrue_or (h s _ hk ht F I fun b h' m1 nw1 t1 F1 I1 r1 => ?_)
  cases b
  · exact r1 _ Q hk rfl F1 I1 k
  · exact k _ _ _ _ _ F1 I1 r1
theorem Go.testA {e : Expr} {rest : List Expr} {pos : Pos} {whole : Sem Value} {R : Bool → Lc → Led → Nat → Prop} (h : Go sc c (isTrue e (c.env sc) (eval e (c.env sc))) m nw t fun b m1 nw1 t1 => cond b (Go sc c (isTrue (.BoolOp .And rest pos) (c.env sc) whole) m1 nw1 t1 R) (R false m1 nw1 t1)) : Go sc c (isTrue (.BoolOp .And (e :: rest) pos) (c.env sc) whole) m nw t R := by
  intro s Q hk ht F I k
  refine isTrue_and (h s _ hk ht F I fun b h' m1 nw1 t1 F1 I1 r1 => ?_)
  cases b
  · exact k _ _ _ _ _ F1 I1 r1
  · exact r1 _ Q hk rfl F1 I1 k
theorem Go.testO0 {pos : Pos} {whole : Sem Value} {R : Bool → Lc → Led → Nat → Prop} (h : R false m nw t) : Go sc c (isTrue (.BoolOp .Or [] pos) (c.env sc) whole) m nw t R := by
  intro s Q hk ht F I k
  subst ht
  exact isTrue_or_nil (k _ s.heap _ _ _ F I h)
theorem Go.testA0 {pos : Pos} {whole : Sem Value} {R : Bool → Lc → Led → Nat → Prop} (h : R true m nw t) : Go sc c (isTrue (.BoolOp .And [] pos) (c.env sc) whole) m nw t R := by
  intro s Q hk ht F I k
  subst ht
  exact isTrue_and_nil (k _ s.heap _ _ _ F I h)
theorem Go.testN {e : Expr} {pos : Pos} {whole : Sem Value} {R : Bool → Lc → Led → Nat → Prop} (h : Go sc c (isTrue e (c.env sc) (eval e (c.env sc))) m nw t fun b => R (!b)) : Go sc c (isTrue (.UnaryOp .Not e pos) (c.env sc) whole) m nw t R :=
  fun s Q hk ht F I k => isTrue_not (h s _ hk ht F I fun b h' m1 nw1 t1 F1 I1 r1 => k _ _ _ _ _ F1 I1 r1)
theorem Go.testE {e : Expr} {R : Bool → Lc → Led → Nat → Prop} (he : isTrue e (c.env sc) (eval e (c.env sc)) = (do let v ← eval e (c.env sc); standAt e.pos; holding [v] (truthy v))) (h : Go sc c (eval e (c.env sc)) m nw t (BoR R)) : Go sc c (isTrue e (c.env sc) (eval e (c.env sc))) m nw t R := by
  intro s Q hk ht F I k
  refine isTrue_plain (h s _ hk ht F I fun v h' m1 nw1 t1 F1 I1 r1 => ?_) he
  obtain ⟨q, rfl, r2⟩ := r1
  exact wpAny_truthy_bool (k _ _ _ _ _ F1 I1 r2)
inductive Tr : Value → Bool → Prop
  | none : Tr .none false
  | bool {b : Bool} : Tr (.bool b) b
  | str {x : Str} {u : Tok} (h : x.cps.size ≠ 0) (h2 : x.cps.size ≤ 64) : Tr (.str x u) true
theorem Tr.sound {v : Value} {b : Bool} (T : Tr v b) {prog : Program} {w : World} {A : Around} {E : Value → Shared → Prop} {s : Shared} {Q : Bool → Shared → Prop} (h : ∀ tk, Q b { s with toks := tk }) : wpAny (model prog w) A (truthy v) Q E s := by
  cases T with
  | none => exact truthy_none (h s.toks)
  | bool => exact wpAny_truthy_bool (h s.toks)
  | str h0 h1 => exact tr_str h0 h1 h
noncomputable def OrR (sc : Scope) (c : Cx) (es : List Expr) (pos : Pos) (R : Value → Lc → Led → Nat → Prop) (v : Value) (m : Lc) (nw : Led) (_ : Nat) : Prop := ∃ b, Tr v b ∧ ∀ t', cond b (R v m nw t') (Go sc c (eval (.BoolOp .Or es pos) (c.env sc)) m nw t' R)
theorem Go.orE {e1 e2 : Expr} {rest : List Expr} {pos : Pos} {R : Value → Lc → Led → Nat → Prop} (h : Go sc c (eval e1 (c.env sc)) m nw t (OrR sc c (e2 :: rest) pos R)) : Go sc c (eval (.BoolOp .Or (e1 :: e2 :: rest) pos) (c.env sc)) m nw t R := by
  intro s Q hk ht F I k
  refine BoolOp_or (h s _ hk ht F I fun v h' m1 nw1 t1 F1 I1 r1 => ?_)
  obtain ⟨b, T, r2⟩ := r1
  refine T.sound fun tk => ?_
  cases b
  · exact r2 tk _ Q hk rfl F1 I1 k
  · exact k _ _ _ _ _ F1 I1 (r2 tk)
noncomputable def AndR (sc : Scope) (c : Cx) (es : List Expr) (pos : Pos) (R : Value → Lc → Led → Nat → Prop) (v : Value) (m : Lc) (nw : Led) (_ : Nat) : Prop := ∃ b, Tr v b ∧ ∀ t', cond b (Go sc c (eval (.BoolOp .And es pos) (c.env sc)) m nw t' R) (R v m nw t')
theorem Go.andE {e1 e2 : Expr} {rest : List Expr} {pos : Pos} {R : Value → Lc → Led → Nat → Prop} (h : Go sc c (eval e1 (c.env sc)) m nw t (AndR sc c (e2 :: rest) pos R)) : Go sc c (eval (.BoolOp .And (e1 :: e2 :: rest) pos) (c.env sc)) m nw t R := by
  intro s Q hk ht F I k
  refine BoolOp_and (h s _ hk ht F I fun v h' m1 nw1 t1 F1 I1 r1 => ?_)
  obtain ⟨b, T, r2⟩ := r1
  refine T.sound fun tk => ?_
  cases b
  · exact k _ _ _ _ _ F1 I1 (r2 tk)
  · exact r2 tk _ Q hk rfl F1 I1 k
theorem Go.one1 {op : BoolOp} {e : Expr} {pos : Pos} {R : Value → Lc → Led → Nat → Prop} (h : Go sc c (eval e (c.env sc)) m nw t R) : Go sc c (eval (.BoolOp op [e] pos) (c.env sc)) m nw t R :=
  fun s Q hk ht F I k => BoolOp_one (h s Q hk ht F I k)
theorem Go.sliceD {e lo : Expr} {p pos : Pos} {D : Addr} {vs : List Value} {n t1 : Nat} {k : Int} {u : Tok} {R : Value → Lc → Led → Nat → Prop} (P : PV (gk.heap_1 c.w.params) sc c.cl m nw e t (.ref D) t1) (P2 : PV (gk.heap_1 c.w.params) sc c.cl m nw lo t1 (.int k u) t') (hm : (D, listOf vs.toArray n) ∈ nw) (h0 : 0 ≤ k) (h1 : k ≤ vs.length) (hz : vs.length ≤ 1000)
    (hs : ∀ x : Addr, subscripted (.Slice (some lo) none none p) false (.ref D) (.ref x) = operate [.ref x, .ref D] (getItem (.ref D) (.ref x)))
    (h : ∀ D' nw', (D', listOf (vs.drop k.toNat).toArray 0) ∈ nw' → Sub nw nw' → Abv nw D' → R (.ref D') m nw' t') : Go sc c (eval (.Subscript e (.Slice (some lo) none none p) pos) (c.env sc)) m nw t R := by
  intro s Q hk ht F I kk
  obtain ⟨g, hG, N, hne⟩ := I
  subst ht
  have N2 := KStb.news_of N fun p hp => List.mem_append_right g hp
  refine Subscript_ (P.sound c.ok rfl F c.X (topRead_of c.T) N2 (wpAny_Slice (P2.sound (s := { s with toks := t1 }) c.ok rfl F c.X (topRead_of c.T) N2 (wpAny_pure (wpAny_pure ?_)))))
  exact slice_any (s := { s with toks := t' }) F N (mr hm) (IsPart.int _ _) IsPart.none hz (fun D' h' F' N' l1 => kk _ _ _ _ _ F' (Cx.Iv.push hG hne (by rw [pick_drop h0 h1] at N'; exact N') l1) (h D' _ (.head _) (fun p hp => .tail _ hp) fun p hp => l1 p (mr hp))) (hs _)
theorem Go.sliceT {e hi : Expr} {p pos : Pos} {D : Addr} {vs : List Value} {n t1 : Nat} {k : Int} {u : Tok} {R : Value → Lc → Led → Nat → Prop} (P : PV (gk.heap_1 c.w.params) sc c.cl m nw e t (.ref D) t1) (P2 : PV (gk.heap_1 c.w.params) sc c.cl m nw hi t1 (.int k u) t') (hm : (D, listOf vs.toArray n) ∈ nw) (h0 : 0 ≤ k) (h1 : k ≤ vs.length) (hz : vs.length ≤ 1000)
    (hs : ∀ x : Addr, subscripted (.Slice none (some hi) none p) false (.ref D) (.ref x) = operate [.ref x, .ref D] (getItem (.ref D) (.ref x)))
    (h : ∀ D' nw', (D', listOf (vs.take k.toNat).toArray 0) ∈ nw' → Sub nw nw' → Abv nw D' → R (.ref D') m nw' t') : Go sc c (eval (.Subscript e (.Slice none (some hi) none p) pos) (c.env sc)) m nw t R := by
  intro s Q hk ht F I kk
  obtain ⟨g, hG, N, hne⟩ := I
  subst ht
  have N2 := KStb.news_of N fun p hp => List.mem_append_right g hp
  refine Subscript_ (P.sound c.ok rfl F c.X (topRead_of c.T) N2 (wpAny_Slice (wpAny_pure (P2.sound (s := { s with toks := t1 }) c.ok rfl F c.X (topRead_of c.T) N2 (wpAny_pure ?_)))))
  exact slice_any (s := { s with toks := t' }) F N (mr hm) IsPart.none (IsPart.int _ _) hz (fun D' h' F' N' l1 => kk _ _ _ _ _ F' (Cx.Iv.push hG hne (by rw [pick_take h0 h1] at N'; exact N') l1) (h D' _ (.head _) (fun p hp => .tail _ hp) fun p hp => l1 p (mr hp))) (hs _)
theorem Go.slice2 {e : Expr} {k9 : Nat} {kp p pos : Pos} {D : Addr} {x y z : Value} {n t1 : Nat} {R : Value → Lc → Led → Nat → Prop} (P : PV (gk.heap_1 c.w.params) sc c.cl m nw e t (.ref D) t1) (hm : (D, tupO [x, y, z] n) ∈ nw)
    (hs : ∀ x : Addr, subscripted (.Slice none (some (.Constant (.int 2) k9 kp)) none p) false (.ref D) (.ref x) = operate [.ref x, .ref D] (getItem (.ref D) (.ref x)))
    (h : ∀ D' nw', (D', tupO [x, y] 0) ∈ nw' → Sub nw nw' → Abv nw D' → R (.ref D') m nw' (t1 + 1)) : Go sc c (eval (.Subscript e (.Slice none (some (.Constant (.int 2) k9 kp)) none p) pos) (c.env sc)) m nw t R := by
  intro s Q hk ht F I kk
  obtain ⟨g, hG, N, hne⟩ := I
  subst ht
  have N2 := KStb.news_of N fun p hp => List.mem_append_right g hp
  refine Subscript_ (P.sound c.ok rfl F c.X (topRead_of c.T) N2 (wpAny_Slice (wpAny_pure (wpAny_Constant_int (k := k9) (pos := kp) (wpAny_pure ?_)))))
  exact slice_tup2x (s := { s with toks := t1 + 1 }) F N (mr hm) (fun D' h' F' N' l1 => kk _ _ _ _ _ F' (Cx.Iv.push hG hne N' l1) (h D' _ (.head _) (fun p hp => .tail _ hp) fun p hp => l1 p (mr hp))) (hs _)
theorem Go.slice13 {e : Expr} {k9 : Nat} {kp p pos : Pos} {D : Addr} {x y z w : Value} {n t1 : Nat} {R : Value → Lc → Led → Nat → Prop} (P : PV (gk.heap_1 c.w.params) sc c.cl m nw e t (.ref D) t1) (hm : (D, tupO [x, y, z, w] n) ∈ nw)
    (hs : ∀ x : Addr, subscripted (.Slice (some (.Constant (.int 1) k9 kp)) none none p) false (.ref D) (.ref x) = operate [.ref x, .ref D] (getItem (.ref D) (.ref x)))
    (h : ∀ D' nw', (D', tupO [y, z, w] 0) ∈ nw' → Sub nw nw' → Abv nw D' → R (.ref D') m nw' (t1 + 1)) : Go sc c (eval (.Subscript e (.Slice (some (.Constant (.int 1) k9 kp)) none none p) pos) (c.env sc)) m nw t R := by
  intro s Q hk ht F I kk
  obtain ⟨g, hG, N, hne⟩ := I
  subst ht
  have N2 := KStb.news_of N fun p hp => List.mem_append_right g hp
  refine Subscript_ (P.sound c.ok rfl F c.X (topRead_of c.T) N2 (wpAny_Slice (wpAny_Constant_int (k := k9) (pos := kp) (wpAny_pure (wpAny_pure ?_)))))
  exact slice_tup13x (s := { s with toks := t1 + 1 }) F N (mr hm) (fun D' h' F' N' l1 => kk _ _ _ _ _ F' (Cx.Iv.push hG hne N' l1) (h D' _ (.head _) (fun p hp => .tail _ hp) fun p hp => l1 p (mr hp))) (hs _)
theorem Go.addL {l l2 : Addr} {vs ws : List Value} {k k2 : Nat} {R : Value → Lc → Led → Nat → Prop} (hm : (l, listOf vs.toArray k) ∈ nw) (hm2 : (l2, listOf ws.toArray k2) ∈ nw) (h1 : vs.length ≤ 1000) (h2 : ws.length ≤ 1000) (h : ∀ D nw', (D, listOf (vs ++ ws).toArray 0) ∈ nw' → Sub nw nw' → Abv nw D → R (.ref D) m nw' t) : Go sc c (binaryOp .Add (.ref l) (.ref l2)) m nw t R := by
  intro s Q hk ht F I kk
  obtain ⟨g, hG, N, hne⟩ := I
  subst ht
  exact add_led F N (mr hm) (mr hm2) h1 h2 fun D' h' F' N' l1 => kk _ _ _ _ _ F' (Cx.Iv.push hG hne N' l1) (h D' _ (.head _) (fun p hp => .tail _ hp) fun p hp => l1 p (mr hp))
theorem Go.mulL {l : Addr} {v : Value} {k : Nat} {i : Int} {u : Tok} {R : Value → Lc → Led → Nat → Prop} (hm : (l, listOf [v].toArray k) ∈ nw) (h0 : 0 ≤ i) (h1 : i ≤ 64) (h : ∀ D nw', (D, listOf (List.replicate i.toNat v).toArray 0) ∈ nw' → Sub nw nw' → Abv nw D → R (.ref D) m nw' t) : Go sc c (binaryOp .Mult (.ref l) (.int i u)) m nw t R := by
  intro s Q hk ht F I kk
  obtain ⟨g, hG, N, hne⟩ := I
  subst ht
  exact mul_led F N (mr hm) h0 h1 fun D' h' F' N' l1 => kk _ _ _ _ _ F' (Cx.Iv.push hG hne N' l1) (h D' _ (.head _) (fun p hp => .tail _ hp) fun p hp => l1 p (mr hp))
noncomputable def BiH (sc : Scope) (c : Cx) (op : Operator) (a : Value) (R : Value → Lc → Led → Nat → Prop) (b : Value) (m : Lc) (nw : Led) (t : Nat) : Prop := Go sc c (binaryOp op a b) m nw t R
noncomputable def BiG (sc : Scope) (c : Cx) (op : Operator) (r : Expr) (R : Value → Lc → Led → Nat → Prop) (a : Value) (m : Lc) (nw : Led) (t : Nat) : Prop := Go sc c (eval r (c.env sc)) m nw t (BiH sc c op a R)
theorem BiH.mk {op : Operator} {a b : Value} {R : Value → Lc → Led → Nat → Prop} (h : Go sc c (binaryOp op a b) m nw t R) : BiH sc c op a R b m nw t := h
theorem BiG.mk {op : Operator} {r : Expr} {a : Value} {R : Value → Lc → Led → Nat → Prop} (h : Go sc c (eval r (c.env sc)) m nw t (BiH sc c op a R)) : BiG sc c op r R a m nw t := h
theorem Go.binG {l r : Expr} {op : Operator} {pos : Pos} {R : Value → Lc → Led → Nat → Prop} (h : Go sc c (eval l (c.env sc)) m nw t (BiG sc c op r R)) : Go sc c (eval (.BinOp l op r pos) (c.env sc)) m nw t R := by
  intro s Q hk ht F I k
  exact wpAny_BinOp (h s _ hk ht F I fun a h' m1 nw1 t1 F1 I1 r1 => r1 _ _ hk rfl F1 I1 fun b h2 m2 nw2 t2 F2 I2 r2 => r2 _ Q hk rfl F2 I2 k)
end
theorem cpT {A B : Prop} (h : A) : cond true A B := h
theorem cpF {A B : Prop} (h : B) : cond false A B := h
theorem cpB {b : Bool} {A B : Prop} (h1 : b = true → A) (h2 : b = false → B) : cond b A B := by
  cases b
  · exact h2 rfl
  · exact h1 rfl
theorem clos_of {c : Cx} {sc scope : Scope} {l cl : List (Str × Addr)} (h : c.cl = l) (e : closureFor scope { c.env sc with cells := l } = Pure.pure cl) : closureFor scope (c.env sc) = Pure.pure cl := by
  subst h
  exact e
theorem sub1 {p : Addr × Obj} {nw : Led} (h : p ∈ nw) : Sub [p] nw := fun q hq => by rw [List.mem_singleton.mp hq]; exact h
theorem go_tupL {elts : List Expr} {x1 : Nat} {pos : Pos} {prog : Program} {w : World} {A : Around} {I l : Addr} {i : Nat} {v : Value} {s' : Shared} {Q' : Unit → Shared → Prop} {E' : Value → Shared → Prop} (hi : s'.heap.IsListIter I l i) (h : Q' () s') : wpAny (model prog w) A (letOwnedTupleGo (.Tuple elts x1 pos) (.ref I) v) Q' E' s' := by
  cases v <;> first | exact wpAny_letOwnedTupleGo_listiter hi h | exact wpAny_pure h
theorem ItS.listN {x : Str} {px : Pos} {l : Addr} {vs : List Value} {kl : Nat} : ItS (.Name x px) (.ref l) [(l, listOf vs.toArray kl)] vs.length (fun i v => vs[i]? = some v) := ItS.list fun _ _ _ _ _ _ _ _ _ _ _ h => go_name h
theorem ItS.listT {elts : List Expr} {x1 : Nat} {pos : Pos} {l : Addr} {vs : List Value} {kl : Nat} : ItS (.Tuple elts x1 pos) (.ref l) [(l, listOf vs.toArray kl)] vs.length (fun i v => vs[i]? = some v) := ItS.list fun _ _ _ _ _ _ _ _ _ _ hi h => go_tupL hi h
theorem ItS.rangeN {x : Str} {px : Pos} {r : Addr} {a b : Int} {t9 u9 v9 : Tok} {n : Nat} (hn : b = a + (n : Int)) (ha : 0 ≤ a) (hb : b < 2 ^ 20) : ItS (.Name x px) (.ref r) [(r, rangeO a b 1 t9 u9 v9)] n (fun i v => ∃ t, v = .int (a + (i : Int)) t) :=
  ItS.range (fun _ _ _ _ _ _ _ _ h => go_name h) (by rw [rangeSize_one]; split <;> omega) ha (by omega) hb (by omega)
section
variable {sc : Scope} {c : Cx} {m : Lc} {nw : Led} {t t' : Nat}
theorem FoG.mkH {target : Expr} {body : List Stmt} {R : Flow → Lc → Led → Nat → Prop} {v : Value} {lst : Led} {n : Nat} {P : Nat → Value → Prop} (hI : ItS target v lst n P) (hs : Sub lst nw) (J : Nat → Lc → Led → Prop) (hj : J 0 m nw) (hl : ∀ i m1 nw1, J i m1 nw1 → Sub lst nw1)
    (turn : ∀ (c2 : Cx) (i : Nat) (u : Value) (m1 : Lc) (nw1 : Led) (t1 : Nat), c2.dp = c.dp → c2.un = c.un → c2.G = c.G → c2.cl = c.cl → c2.fsc = c.fsc → c2.h₀ = c.h₀ → i < n → P i u → J i m1 nw1 → Go sc c2 (assign target (c2.env sc) u) m1 nw1 t1 fun _ m2 nw2 t2 => Go sc c2 (execs body (c2.env sc)) m2 nw2 t2 (FoE (J (i + 1)) R))
    (done : ∀ m1 nw1 t1, J n m1 nw1 → R .next m1 nw1 t1) : FoG sc c target body R v m nw t := ⟨lst, n, P, J, hI, hs, hj, hl, turn, done⟩
theorem FoG.mk {target : Expr} {body : List Stmt} {R : Flow → Lc → Led → Nat → Prop} {v : Value} {lst : Led} {n : Nat} {P : Nat → Value → Prop} (hI : ItS target v lst n P) (hs : Sub lst nw) (J : Nat → Lc → Led → Prop) (hj : J 0 m nw) (hl : ∀ i m1 nw1, J i m1 nw1 → Sub lst nw1)
    (turn : ∀ (c2 : Cx) (i : Nat) (u : Value) (m1 : Lc) (nw1 : Led) (t1 : Nat), c2.dp = c.dp → c2.un = c.un → c2.G = c.G → c2.cl = c.cl → c2.fsc = c.fsc → i < n → P i u → J i m1 nw1 → Go sc c2 (assign target (c2.env sc) u) m1 nw1 t1 fun _ m2 nw2 t2 => Go sc c2 (execs body (c2.env sc)) m2 nw2 t2 (FoE (J (i + 1)) R))
    (done : ∀ m1 nw1 t1, J n m1 nw1 → R .next m1 nw1 t1) : FoG sc c target body R v m nw t := ⟨lst, n, P, J, hI, hs, hj, hl, fun c2 i u m1 nw1 t1 a b d e f _ => turn c2 i u m1 nw1 t1 a b d e f, done⟩
theorem FoG.nil {x : Str} {px : Pos} {body : List Stmt} {R : Flow → Lc → Led → Nat → Prop} {l : Addr} {k : Nat} (hm : (l, listOf ([] : List Value).toArray k) ∈ nw) (h : ∀ t1, R .next m nw t1) : FoG sc c (.Name x px) body R (.ref l) m nw t :=
  FoG.mk (ItS.listN (vs := [])) (sub1 hm) (fun _ m1 nw1 => m1 = m ∧ nw1 = nw) ⟨rfl, rfl⟩ (fun _ _ _ ⟨_, e⟩ => by subst e; exact sub1 hm) (fun _ i _ _ _ _ _ _ _ _ _ hi => by cases hi) fun m1 nw1 t1 ⟨e1, e2⟩ => by subst e1 e2; exact h t1
theorem CoG.mk {elt target : Expr} {ifs : List Expr} {scope : Scope} {cl : List (Str × Addr)} {R : Value → Lc → Led → Nat → Prop} {v : Value} {lst : Led} {n : Nat} {P : Nat → Value → Prop} (hI : ItS target v lst n P) (hn : n ≤ 1000) (hs : Sub lst nw) (J : Nat → List Value → Led → Prop) (hj : J 0 [] nw) (hl : ∀ i ys nw1, J i ys nw1 → Sub lst nw1)
    (turn : ∀ (c2 : Cx) (i : Nat) (u : Value) (ys : List Value) (mC : Lc) (nw1 : Led) (t1 : Nat), c2.dp = c.dp → c2.un = c.un → c2.G = c.G → c2.cl = cl → i < n → P i u → J i ys nw1 →
      Go (rlb sc scope) c2 (assign target (c2.env (rlb sc scope)) u) mC nw1 t1 fun _ m2 nw2 t2 => TestG (rlb sc scope) c2 ifs (CoE (rlb sc scope) c2 elt (J (i + 1)) ys) m2 nw2 t2)
    (done : ∀ D k ys nw1 nw2 t1, J n ys nw1 → (D, listOf ys.toArray k) ∈ nw2 → Sub nw1 nw2 → Abv nw D → (∀ p ∈ nw1, p.1 ≠ D) → R (.ref D) m nw2 t1) (few : ifs.length ≤ 1 := by exact Nat.le_of_ble_eq_true rfl) : CoG sc c elt target ifs scope cl R v m nw t := ⟨lst, n, P, J, hI, hn, few, hs, hj, hl, turn, done⟩
theorem TestG.nil {R : Bool → Lc → Led → Nat → Prop} (h : R true m nw t) : TestG sc c [] R m nw t := h
theorem TestG.one {e : Expr} {R : Bool → Lc → Led → Nat → Prop} (h : Go sc c (isTrue e (c.env sc) (eval e (c.env sc))) m nw t R) : TestG sc c [e] R m nw t := h
theorem CoE.yes {elt : Expr} {J : List Value → Led → Prop} {ys : List Value} (h : Go sc c (eval elt (c.env sc)) m nw t fun y _ nw2 _ => J (ys ++ [y]) nw2) : CoE sc c elt J ys true m nw t := h
theorem CoE.no {elt : Expr} {J : List Value → Led → Prop} {ys : List Value} (h : J ys nw) : CoE sc c elt J ys false m nw t := h
theorem CoE.both {elt : Expr} {J : List Value → Led → Prop} {ys : List Value} {b : Bool} (h1 : b = true → Go sc c (eval elt (c.env sc)) m nw t fun y _ nw2 _ => J (ys ++ [y]) nw2) (h2 : b = false → J ys nw) : CoE sc c elt J ys b m nw t := by
  cases b
  · exact h2 rfl
  · exact h1 rfl
theorem OrR.mk {es : List Expr} {pos : Pos} {R : Value → Lc → Led → Nat → Prop} {v : Value} {b : Bool} (T : Tr v b) (h : ∀ t', cond b (R v m nw t') (Go sc c (eval (.BoolOp .Or es pos) (c.env sc)) m nw t' R)) : OrR sc c es pos R v m nw t := ⟨b, T, h⟩
theorem AndR.mk {es : List Expr} {pos : Pos} {R : Value → Lc → Led → Nat → Prop} {v : Value} {b : Bool} (T : Tr v b) (h : ∀ t', cond b (Go sc c (eval (.BoolOp .And es pos) (c.env sc)) m nw t' R) (R v m nw t')) : AndR sc c es pos R v m nw t := ⟨b, T, h⟩
end
section
variable {sc : Scope} {c : Cx} {m : Lc} {nw : Led} {t t' : Nat} {q : Bool}
theorem Go.condTe {a b : List Stmt} {R : Flow → Lc → Led → Nat → Prop} (e : q = true) (h : Go sc c (execs a (c.env sc)) m nw t R) : Go sc c (execs (cond q a b) (c.env sc)) m nw t R := by subst e; exact h
theorem Go.condFe {a b : List Stmt} {R : Flow → Lc → Led → Nat → Prop} (e : q = false) (h : Go sc c (execs b (c.env sc)) m nw t R) : Go sc c (execs (cond q a b) (c.env sc)) m nw t R := by subst e; exact h
theorem Go.condETe {a b : Expr} {R : Value → Lc → Led → Nat → Prop} (e : q = true) (h : Go sc c (eval a (c.env sc)) m nw t R) : Go sc c (eval (cond q a b) (c.env sc)) m nw t R := by subst e; exact h
theorem Go.condEFe {a b : Expr} {R : Value → Lc → Led → Nat → Prop} (e : q = false) (h : Go sc c (eval b (c.env sc)) m nw t R) : Go sc c (eval (cond q a b) (c.env sc)) m nw t R := by subst e; exact h
theorem WhT.yese {body : List Stmt} {J : Nat → Lc → Led → Prop} {n : Nat} {R : Flow → Lc → Led → Nat → Prop} (e : q = true) (h : Go sc c (execs body (c.env sc)) m nw t (WhE J n R)) : WhT sc c body J n R q m nw t := by subst e; exact h
theorem WhT.noe {body : List Stmt} {J : Nat → Lc → Led → Prop} {n : Nat} {R : Flow → Lc → Led → Nat → Prop} (e : q = false) (h : R .next m nw t) : WhT sc c body J n R q m nw t := by subst e; exact h
theorem cpTe {A B : Prop} (e : q = true) (h : A) : cond q A B := by subst e; exact h
theorem cpFe {A B : Prop} (e : q = false) (h : B) : cond q A B := by subst e; exact h
end
section
variable {sc : Scope} {c : Cx} {m : Lc} {nw : Led} {t t' : Nat}
theorem Go.inS {T : Addr} {vs : List Value} {n : Nat} {x : Str} {u : Tok} {ys : List Str} {R : Value → Lc → Led → Nat → Prop} (hm : (T, tupO vs n) ∈ nw) (e : StrsAre vs ys) (h : R (.bool (ys.any (· == x))) m nw t) : Go sc c (compareOp .In (.str x u) (.ref T)) m nw t R := by
  intro s Q hk ht F I k
  have I9 := I
  obtain ⟨g, hG, N, hne⟩ := I
  subst ht
  exact in_tuple_strs (items := vs.toArray) ⟨_, (N _ (mr hm)).1, rfl, n, rfl⟩ (by simpa using e) (k _ s.heap _ _ _ F I9 h)
open Classical in
theorem Go.inD {a : Addr} {xs : List Value} {ka : Nat} {n₁ n₂ : Led} {ds : List Dat} {x : Value} {d : Dat} {R : Value → Lc → Led → Nat → Prop} (ma : (a, listOf xs.toArray ka) ∈ nw) (Da : DatAll n₁ xs ds) (sa : Sub n₁ nw) (Dx : DatIn n₂ x d) (sx : Sub n₂ nw) (ha : ∀ d ∈ ds, kqdOk 8 d = true) (hd : kqdOk 8 d = true) (hu : c.un + 64 < cLine) (h : R (.bool (decide (d ∈ ds))) m nw t) : Go sc c (compareOp .In x (.ref a)) m nw t R := by
  intro s Q hk ht F I k
  have I9 := I
  obtain ⟨g, hG, N, hne⟩ := I
  subst ht
  exact kqd_isIn (KStb.news_of N fun p hp => mr hp) ma rfl rfl Da sa Dx sx ha hd hu (k _ s.heap _ _ _ F I9 h)
open Classical in
theorem Go.notInD {a : Addr} {xs : List Value} {ka : Nat} {n₁ n₂ : Led} {ds : List Dat} {x : Value} {d : Dat} {R : Value → Lc → Led → Nat → Prop} (ma : (a, listOf xs.toArray ka) ∈ nw) (Da : DatAll n₁ xs ds) (sa : Sub n₁ nw) (Dx : DatIn n₂ x d) (sx : Sub n₂ nw) (ha : ∀ d ∈ ds, kqdOk 8 d = true) (hd : kqdOk 8 d = true) (hu : c.un + 64 < cLine) (h : R (.bool (!decide (d ∈ ds))) m nw t) : Go sc c (compareOp .NotIn x (.ref a)) m nw t R := by
  intro s Q hk ht F I k
  have I9 := I
  obtain ⟨g, hG, N, hne⟩ := I
  subst ht
  exact kqd_notIn (KStb.news_of N fun p hp => mr hp) ma rfl rfl Da sa Dx sx ha hd hu (k _ s.heap _ _ _ F I9 h)
end
section
variable {sc : Scope} {c : Cx} {m : Lc} {nw : Led} {t t' : Nat}
theorem Go.listC {l : Addr} {vs : List Value} {n : Nat} {R : Value → Lc → Led → Nat → Prop} (hm : (l, listOf vs.toArray n) ∈ nw) (hz : vs.length ≤ 1000) (h : ∀ D k nw' t', (D, listOf vs.toArray k) ∈ nw' → Sub nw nw' → Abv nw D → R (.ref D) m nw' t') : Go sc c (call (.type "list") [.ref l]) m nw t R := by
  intro s Q hk ht F I kk
  obtain ⟨g, hG, N, hne⟩ := I
  subst ht
  have q := N _ (mr hm)
  refine call_list_seq l (.inl rfl) q.1 rfl rfl (fun h' c' hk' hD => kk _ _ _ _ s.toks (F.keeps hk') (Cx.Iv.push (D := s.heap.objs.size) (o := listOf vs.toArray c') hG hne (fun p hp => ?_) fun p hp => Heap.lt_size (N p hp).1) (h _ c' _ _ (.head _) (fun p hp => .tail _ hp) fun p hp => Heap.lt_size (N p (mr hp)).1)) (by rw [List.size_toArray, sizeLine_eq]; omega)
  rcases List.mem_cons.mp hp with rfl | hp
  · exact ⟨hD, Nat.ne_of_gt F.ns.lt, next_is_new F⟩
  · exact ⟨hk' _ _ (N p hp).1, (N p hp).2⟩
end
section
variable {sc : Scope} {c : Cx} {m : Lc} {nw : Led} {t t' : Nat}
theorem Go.asP2 {a b : Expr} {n k : Nat} {pos : Pos} {T : Addr} {u w : Value} {R : Unit → Lc → Led → Nat → Prop} (hm : (T, tupO [u, w] k) ∈ nw) (he : assignEach [a, b] (c.env sc) = [(false, assign a (c.env sc)), (false, assign b (c.env sc))])
    (h : Go sc c (assign a (c.env sc) u) m nw t fun _ m2 nw2 t2 => Go sc c (assign b (c.env sc) w) m2 nw2 t2 R) : Go sc c (assign (.Tuple [a, b] n pos) (c.env sc) (.ref T)) m nw t R := by
  intro s Q hk ht F I kk
  obtain ⟨g, hG, N, hne⟩ := I
  refine unpackN_ (items := [u, w].toArray) F N ⟨_, (N _ (mr hm)).1, rfl, k, rfl⟩ rfl (by rw [he]; rfl) (by rw [he]; rfl) fun h2 F2 N2 => ?_
  rw [he]
  refine assignInOrder_cons (h _ _ hk ht F2 ⟨g, hG, N2, hne⟩ fun _ h3 m3 nw3 t3 F3 I3 r3 => ?_)
  refine assignInOrder_cons (r3 _ _ hk rfl F3 I3 fun _ h4 m4 nw4 t4 F4 I4 r4 => ?_)
  exact assignInOrder_nil (kk _ _ _ _ _ F4 I4 r4)
theorem Go.asP3 {a b d : Expr} {n k : Nat} {pos : Pos} {T : Addr} {u w z : Value} {R : Unit → Lc → Led → Nat → Prop} (hm : (T, tupO [u, w, z] k) ∈ nw) (he : assignEach [a, b, d] (c.env sc) = [(false, assign a (c.env sc)), (false, assign b (c.env sc)), (false, assign d (c.env sc))])
    (h : Go sc c (assign a (c.env sc) u) m nw t fun _ m2 nw2 t2 => Go sc c (assign b (c.env sc) w) m2 nw2 t2 fun _ m3 nw3 t3 => Go sc c (assign d (c.env sc) z) m3 nw3 t3 R) : Go sc c (assign (.Tuple [a, b, d] n pos) (c.env sc) (.ref T)) m nw t R := by
  intro s Q hk ht F I kk
  obtain ⟨g, hG, N, hne⟩ := I
  refine unpackN_ (items := [u, w, z].toArray) F N ⟨_, (N _ (mr hm)).1, rfl, k, rfl⟩ rfl (by rw [he]; rfl) (by rw [he]; rfl) fun h2 F2 N2 => ?_
  rw [he]
  refine assignInOrder_cons (h _ _ hk ht F2 ⟨g, hG, N2, hne⟩ fun _ h3 m3 nw3 t3 F3 I3 r3 => ?_)
  refine assignInOrder_cons (r3 _ _ hk rfl F3 I3 fun _ h4 m4 nw4 t4 F4 I4 r4 => ?_)
  refine assignInOrder_cons (r4 _ _ hk rfl F4 I4 fun _ h5 m5 nw5 t5 F5 I5 r5 => ?_)
  exact assignInOrder_nil (kk _ _ _ _ _ F5 I5 r5)
end
section
variable {sc : Scope} {c : Cx} {m : Lc} {nw : Led} {t t' : Nat}
theorem Go.mono {α : Type} {x : Sem α} {R R' : α → Lc → Led → Nat → Prop} (h : Go sc c x m nw t R) (hs : ∀ a m nw t, R a m nw t → R' a m nw t) : Go sc c x m nw t R' :=
  fun s Q hk ht F I k => h s Q hk ht F I fun a h' m' nw' t' F' I' r => k a h' m' nw' t' F' I' (hs _ _ _ _ r)
noncomputable def DR (D : Lc → Led → Prop) (R : Flow → Lc → Led → Nat → Prop) : Flow → Lc → Led → Nat → Prop
  | .next, m, nw, _ => D m nw
  | f, m, nw, t => R f m nw t
theorem DR.nx {D : Lc → Led → Prop} {R : Flow → Lc → Led → Nat → Prop} (h : D m nw) : DR D R .next m nw t := h
theorem Go.whileD {test : Expr} {body : List Stmt} {pos : Pos} {rest : List Stmt} {R : Flow → Lc → Led → Nat → Prop} (J : Nat → Lc → Led → Prop) (n : Nat) (D : Lc → Led → Prop) (hj : J n m nw) (done : ∀ m1 nw1 t1, D m1 nw1 → Go sc c (execs rest (c.env sc)) m1 nw1 t1 R)
    (turn : ∀ n m1 nw1 t1, J n m1 nw1 → Go sc c (isTrue test (c.env sc) (eval test (c.env sc))) m1 nw1 t1 (WhT sc c body J n (DR D R))) : Go sc c (execs (.While test body [] pos :: rest) (c.env sc)) m nw t R := by
  have e : ∀ f m1 nw1 t1, DR D R f m1 nw1 t1 → Seq sc c rest R f m1 nw1 t1 := fun f m1 nw1 t1 h => by
    cases f with
    | next => exact done _ _ _ h
    | _ => exact h
  refine Go.while_ J n hj fun n m1 nw1 t1 hJ => Go.mono (turn n m1 nw1 t1 hJ) fun b m2 nw2 t2 h => ?_
  cases b with
  | false => exact e .next m2 nw2 t2 h
  | true =>
    refine Go.mono (show Go sc c (execs body (c.env sc)) m2 nw2 t2 (WhE J n (DR D R)) from h) fun f m3 nw3 t3 h3 => ?_
    cases f with
    | brk => exact e .next m3 nw3 t3 h3
    | ret v => exact e (.ret v) m3 nw3 t3 h3
    | next => exact h3
    | cont => exact h3
theorem Go.boolB {b : Bool} {R : Value → Lc → Led → Nat → Prop} (h : ∀ t', R (.bool b) m nw t') : Go sc c (call (.type "bool") [.bool b]) m nw t R := Go.nat (fun prog w A s Q E k => by walk1; exact k _) h
theorem Go.boolN {R : Value → Lc → Led → Nat → Prop} (h : ∀ t', R (.bool false) m nw t') : Go sc c (call (.type "bool") [.none]) m nw t R := Go.nat (fun prog w A s Q E k => by walk1; exact k _) h
end
theorem keep_tup {d : Addr} {xs : Array Value} {n : Nat} {a b : Led} (k : Keep d (listOf xs n) a b) : ∀ p ∈ a, p.2.cls = .type "tuple" → p ∈ b := fun p hp hc => k p hp (.inr fun e => by rw [e] at hc; simp at hc)
theorem KeepA.rf {d : Addr} {a : Led} : KeepA d a a := fun p hp _ => hp
theorem PathIs.to {a b : Led} {x : Addr} {d : PathD} (I : PathIs a x d) (h : Sub a b) : PathIs b x d := I.mono h
theorem ExprIs.to {a b : Led} {x : Addr} {e : Option (Int × Int × Str)} (I : ExprIs a x e) (h : Sub a b) : ExprIs b x e := I.mono h
theorem SrcIs.to {a b : Led} {so : Addr} {num : Int} {cols : List (Str × Str × Str)} {tb : Value} (I : SrcIs a so num cols tb) (h : Sub a b) : SrcIs b so num cols tb := I.mono h
theorem TabIs.to {a b : Led} {tb : Addr} {hk : Bool} (I : TabIs a tb hk) (h : Sub a b) : TabIs b tb hk := I.mono h
theorem datAll_to {a b : Led} {vs : List Value} {ds : List Dat} (I : DatAll a vs ds) (h : Sub a b) : DatAll b vs ds := DatAll.mono h I
theorem KeepA.tS {d : Addr} {a b e : Led} (k : Sub b e) (h : KeepA d a b) : KeepA d a e := fun p hp hn => k p (h p hp hn)
theorem KeepA.tK {d : Addr} {o : Obj} {a b e : Led} (k : Keep d o b e) (h : KeepA d a b) : KeepA d a e := fun p hp hn => k p (h p hp hn) (.inl hn)
theorem Sub.keepN {a b b' : Led} {d : Addr} {o : Obj} (k : Keep d o b b') (h : Sub a b) (l : ∀ p ∈ a, p.1 ≠ d) : Sub a b' := fun p hp => k p (h p hp) (.inl (l p hp))
noncomputable def TupS (a b : Led) : Prop := ∀ p ∈ a, p.2.cls = .type "tuple" → p ∈ b
theorem TupS.rf {a : Led} : TupS a a := fun _ h _ => h
theorem TupS.tS {a b e : Led} (k : Sub b e) (h : TupS a b) : TupS a e := fun p hp hc => k p (h p hp hc)
theorem TupS.tK {d : Addr} {xs : Array Value} {n : Nat} {a b e : Led} (k : Keep d (listOf xs n) b e) (h : TupS a b) : TupS a e := fun p hp hc => keep_tup k p (h p hp hc) hc
end
section
section
variable {sc : Scope} {c : Cx} {m : Lc} {nw : Led} {t t' : Nat}
theorem Go.brk {pos : Pos} {rest : List Stmt} {R : Flow → Lc → Led → Nat → Prop} (h : R .brk m nw t) : Go sc c (execs (.Break pos :: rest) (c.env sc)) m nw t R := by
  intro s Q hk ht F I k
  subst ht
  exact wpAny_execs_cons (wpAny_Break (k _ s.heap _ _ _ F I h))
theorem Go.cont {pos : Pos} {rest : List Stmt} {R : Flow → Lc → Led → Nat → Prop} (h : R .cont m nw t) : Go sc c (execs (.Continue pos :: rest) (c.env sc)) m nw t R := by
  intro s Q hk ht F I k
  subst ht
  exact wpAny_execs_cons (wpAny_Continue (k _ s.heap _ _ _ F I h))
theorem Seq.brk {rest : List Stmt} {R : Flow → Lc → Led → Nat → Prop} (h : R .brk m nw t) : Seq sc c rest R .brk m nw t := h
theorem Seq.cont {rest : List Stmt} {R : Flow → Lc → Led → Nat → Prop} (h : R .cont m nw t) : Seq sc c rest R .cont m nw t := h
end
theorem TupS.tD {d : Addr} {es : List DictEntry} {n : Nat} {a b e : Led} (k : Keep d (dictOf es n) b e) (h : TupS a b) : TupS a e := fun p hp hc => k p (h p hp hc) (.inr fun e => by rw [e] at hc; simp at hc)
noncomputable def off (d : Addr) (nw : Led) : Led := nw.filter fun p => p.1 != d
theorem off_sub {d : Addr} {nw : Led} : Sub (off d nw) nw := fun p hp => (List.mem_filter.mp hp).1
theorem off_ne {d : Addr} {nw : Led} : ∀ p ∈ off d nw, p.1 ≠ d := fun p hp => by simpa using (List.mem_filter.mp hp).2
theorem off_mem {d : Addr} {nw : Led} {p : Addr × Obj} (h : p ∈ nw) (hn : p.1 ≠ d) : p ∈ off d nw := List.mem_filter.mpr ⟨h, by simpa using hn⟩
theorem off_of {d : Addr} {a nw : Led} (h : Sub a nw) (hn : ∀ p ∈ a, p.1 ≠ d) : Sub a (off d nw) := fun p hp => off_mem (h p hp) (hn p hp)
theorem off_abv {d : Addr} {a nw : Led} (h : Sub a nw) (l : Abv a d) : Sub a (off d nw) := fun p hp => off_mem (h p hp) (Nat.ne_of_lt (l p hp))
noncomputable def tag (o : Obj) : Nat := match o.data with
  | .dict .. => 1
  | .cell _ => 2
  | .seq .. => (match o.cls with | .type "list" => 3 | _ => 4)
  | _ => 5
theorem keep_tag {d a : Addr} {o o' : Obj} {nw nw' : Led} (h : Keep d o nw nw') (ht : (tag o' == tag o) = false) (hm : (a, o') ∈ nw) : (a, o') ∈ nw' := h _ hm (.inr fun e => by rw [show o' = o from e] at ht; simp at ht)
section
variable {sc : Scope} {c : Cx} {m : Lc} {nw : Led} {t t' : Nat}
theorem Go.grow {α : Type} {x : Sem α} {P : α → Prop} {R : α → Lc → Led → Nat → Prop} (h : ∀ (s : Shared) (Q : α → Shared → Prop), (∀ v h' tk, P v → (∀ b o, s.heap.get? b = some o → h'.get? b = some o) → Q v { s with heap := h', toks := tk }) → wpAny (model c.prog c.w) (c.A sc) x Q NoE s) (hR : ∀ v t', P v → R v m nw t') : Go sc c x m nw t R := by
  intro s Q _ _ F I k
  obtain ⟨g, hG, N, hne⟩ := I
  exact h s Q fun v h' tk hv hk => k v h' m nw tk (F.keeps hk) ⟨g, hG, N.grown hk, hne⟩ (hR v tk hv)
theorem Go.max2 {a b : Int} {u v : Tok} {R : Value → Lc → Led → Nat → Prop} (h : ∀ u t', R (.int (if b > a then b else a) u) m nw t') : Go sc c (call (.builtin "max") [.int a u, .int b v]) m nw t R :=
  Go.grow (P := fun r => ∃ u, r = .int (if b > a then b else a) u) (fun s Q k => max_two_ints rfl fun h' tk hk => k _ _ _ (by split <;> exact ⟨_, rfl⟩) hk) fun v t' ⟨u, e⟩ => by rw [e]; exact h u t'
theorem Go.min2 {a b : Int} {u v : Tok} {R : Value → Lc → Led → Nat → Prop} (h : ∀ u t', R (.int (if b < a then b else a) u) m nw t') : Go sc c (call (.builtin "min") [.int a u, .int b v]) m nw t R :=
  Go.grow (P := fun r => ∃ u, r = .int (if b < a then b else a) u) (fun s Q k => min_two_ints rfl fun h' tk hk => k _ _ _ (by split <;> exact ⟨_, rfl⟩) hk) fun v t' ⟨u, e⟩ => by rw [e]; exact h u t'
theorem Go.intI {a : Int} {u : Tok} {R : Value → Lc → Led → Nat → Prop} (h : R (.int a u) m nw t) : Go sc c (call (.type "int") [.int a u]) m nw t R := by
  intro s Q _ ht F I k
  subst ht
  exact call_int_int (k _ s.heap _ _ _ F I h)
theorem Go.intB {b : Bool} {R : Value → Lc → Led → Nat → Prop} (h : R (.int (if b then 1 else 0) t) m nw (t + 1)) : Go sc c (call (.type "int") [.bool b]) m nw t R := by
  intro s Q _ ht F I k
  subst ht
  exact call_int_bool (k _ s.heap _ _ _ F I h)
end
noncomputable def KeepT (d : Addr) (k : Nat) (nw nw' : Led) : Prop := ∀ p ∈ nw, (p.1 ≠ d ∨ (tag p.2 == k) = false) → p ∈ nw'
theorem KeepT.rf {d : Addr} {k : Nat} {a : Led} : KeepT d k a a := fun _ h _ => h
theorem KeepT.tS {d : Addr} {k : Nat} {a b e : Led} (q : Sub b e) (h : KeepT d k a b) : KeepT d k a e := fun p hp hn => q p (h p hp hn)
theorem KeepT.tK {d : Addr} {k : Nat} {o : Obj} {a b e : Led} (q : Keep d o b e) (ht : (tag o == k) = true) (h : KeepT d k a b) : KeepT d k a e := fun p hp hn => q p (h p hp hn) (hn.imp id fun h2 e => by rw [e, ht] at h2; cases h2)
theorem KeepT.tT {d : Addr} {k : Nat} {a b e : Led} (q : KeepT d k b e) (h : KeepT d k a b) : KeepT d k a e := fun p hp hn => q p (h p hp hn) hn
theorem keep_cell {d a : Addr} {o o' : Obj} {u : Option Value} {nw nw' : Led} (h : Keep d o nw nw') (hd : o.data = .cell u) (ht : (tag o' == 2) = false) (hm : (a, o') ∈ nw) : (a, o') ∈ nw' := h _ hm (.inr fun e => by
  rw [show o' = o from e, show tag o = 2 from by unfold tag; rw [hd]] at ht
  cases ht)
theorem keepT_or {d x : Addr} {k : Nat} {o : Obj} {a b : Led} (h : KeepT d k a b) (hd : (tag o == k) = false ∨ x ≠ d) (hm : (x, o) ∈ a) : (x, o) ∈ b := h _ hm hd.symm
theorem or_tag {A B C : Prop} (h : B) : A ∨ B ∨ C := .inr (.inl h)
theorem or_addr {A B C : Prop} (h : A) : A ∨ B ∨ C := .inl h
theorem or_cell {A B C : Prop} {o : Obj} {u : Option Value} (h : C) (hd : o.data = .cell u) : A ∨ B ∨ (C ∧ ∃ u, o.data = .cell u) := .inr (.inr ⟨h, u, hd⟩)
theorem keep_or {d a : Addr} {o o' : Obj} {nw nw' : Led} (h : Keep d o nw nw') (hd : a ≠ d ∨ (tag o' == tag o) = false ∨ ((tag o' == 2) = false ∧ ∃ u, o.data = .cell u)) (hm : (a, o') ∈ nw) : (a, o') ∈ nw' := by
  rcases hd with hd | hd | ⟨ht, u, hd⟩
  · exact h _ hm (.inl hd)
  · exact keep_tag h hd hm
  · exact keep_cell h hd ht hm
theorem Sub.keepT {d : Addr} {k : Nat} {a b e : Led} (q : KeepT d k b e) (h : Sub a b) (l : Abv a d) : Sub a e := fun p hp => q p (h p hp) (.inl (Nat.ne_of_lt (l p hp)))
end
section
section
variable {sc : Scope} {c : Cx} {m : Lc} {nw : Led} {t t' : Nat}
noncomputable def FoZ (sc : Scope) (c : Cx) (a b : Expr) (body : List Stmt) (R : Flow → Lc → Led → Nat → Prop) (l1 l2 : Addr) (vs1 vs2 : List Value) (k1 k2 : Nat) (m : Lc) (nw : Led) : Prop :=
  ∃ J : Nat → Lc → Led → Prop, J 0 m nw ∧ (∀ i m1 nw1, J i m1 nw1 → (l1, listOf vs1.toArray k1) ∈ nw1 ∧ (l2, listOf vs2.toArray k2) ∈ nw1) ∧
    (∀ (c2 : Cx) (i : Nat) (u v : Value) (m1 : Lc) (nw1 : Led) (t1 : Nat), c2.dp = c.dp → c2.un = c.un → c2.G = c.G → c2.cl = c.cl → c2.fsc = c.fsc → vs1[i]? = some u → vs2[i]? = some v → J i m1 nw1 →
      Go sc c2 (assign a (c2.env sc) u) m1 nw1 t1 fun _ m2 nw2 t2 => Go sc c2 (assign b (c2.env sc) v) m2 nw2 t2 fun _ m3 nw3 t3 => Go sc c2 (execs body (c2.env sc)) m3 nw3 t3 (FoE (J (i + 1)) R)) ∧
    ∀ m1 nw1 t1, J (min vs1.length vs2.length) m1 nw1 → R .next m1 nw1 t1
theorem FoZ.mk {a b : Expr} {body : List Stmt} {R : Flow → Lc → Led → Nat → Prop} {l1 l2 : Addr} {vs1 vs2 : List Value} {k1 k2 : Nat} (J : Nat → Lc → Led → Prop) (hj : J 0 m nw) (hl : ∀ i m1 nw1, J i m1 nw1 → (l1, listOf vs1.toArray k1) ∈ nw1 ∧ (l2, listOf vs2.toArray k2) ∈ nw1)
    (turn : ∀ (c2 : Cx) (i : Nat) (u v : Value) (m1 : Lc) (nw1 : Led) (t1 : Nat), c2.dp = c.dp → c2.un = c.un → c2.G = c.G → c2.cl = c.cl → c2.fsc = c.fsc → vs1[i]? = some u → vs2[i]? = some v → J i m1 nw1 →
      Go sc c2 (assign a (c2.env sc) u) m1 nw1 t1 fun _ m2 nw2 t2 => Go sc c2 (assign b (c2.env sc) v) m2 nw2 t2 fun _ m3 nw3 t3 => Go sc c2 (execs body (c2.env sc)) m3 nw3 t3 (FoE (J (i + 1)) R))
    (done : ∀ m1 nw1 t1, J (min vs1.length vs2.length) m1 nw1 → R .next m1 nw1 t1) : FoZ sc c a b body R l1 l2 vs1 vs2 k1 k2 m nw := ⟨J, hj, hl, turn, done⟩
theorem Go.forZip {a b e1 e2 : Expr} {fp tp cp pos : Pos} {kk : Nat} {body rest : List Stmt} {l1 l2 : Addr} {vs1 vs2 : List Value} {k1 k2 : Nat} {R : Flow → Lc → Led → Nat → Prop}
    (hx : globOk sc (Str.ofString "zip") = true) (e : nsIn (gk.heap_1 c.w.params) mainGlobals (Str.ofString "zip") = some none) (hv : bootBuiltins (Str.ofString "zip") = some (.type "zip"))
    (hs : ∀ v, foldedSetIterable (.Call (.Name (Str.ofString "zip") fp) [e1, e2] [] cp) (c.env sc) v = Pure.pure v) (hE : ∀ c2 : Cx, assignEach [a, b] (c2.env sc) = [(false, assign a (c2.env sc)), (false, assign b (c2.env sc))])
    (P : PVs (gk.heap_1 c.w.params) sc c.cl m nw [e1, e2] t [.ref l1, .ref l2] t') (q1 : (l1, listOf vs1.toArray k1) ∈ nw) (q2 : (l2, listOf vs2.toArray k2) ∈ nw)
    (h : FoZ sc c a b body (Seq sc c rest R) l1 l2 vs1 vs2 k1 k2 m nw) : Go sc c (execs (.For (.Tuple [a, b] kk tp) (.Call (.Name (Str.ofString "zip") fp) [e1, e2] [] cp) body [] pos :: rest) (c.env sc)) m nw t R := by
  refine Go.cons fun s Q hk ht F I k => ?_
  obtain ⟨J, hj, hl, turn, done⟩ := h
  obtain ⟨g, hG, N, hne⟩ := I
  subst ht
  refine wpAny_For (Call_ (nameE_B c.ok F c.X (topRead_of c.T) e hv (by decide) (callWith_bt rfl (args_pure c.ok F c.X (topRead_of c.T) (KStb.news_of N fun p hp => mr hp) P ?call) (by cases P with | cons p q => exact plain_star p) (by cases P with | cons p q => exact plain_any q)) hx)) hs
  have hls1 : s.heap.IsList l1 vs1.toArray := PySem.IsL.isList (n := k1) (N _ (mr q1)).1
  have hls2 : s.heap.IsList l2 vs2.toArray := PySem.IsL.isList (n := k2) (N _ (mr q2)).1
  have a1 : l1 < s.heap.objs.size := Heap.lt_size (N _ (mr q1)).1
  have a2 : l2 < s.heap.objs.size := Heap.lt_size (N _ (mr q2)).1
  refine call_zip_2 (s := { s with toks := t' }) hls1 hls2 fun h1 hz hTI hTO hit1 hit2 hsz hold => ?_
  have W := WalksT.zip2 (prog := c.prog) (w := c.w) (A := c.A sc) rfl _ _ _ _ _ l1 l2 (zipApart_new a1 a2) vs1.toArray vs2.toArray
  have hst : IsZip h1 (s.heap.objs.size + 4) (s.heap.objs.size + 2) (s.heap.objs.size + 3) .none ∧ IsPair h1 (s.heap.objs.size + 2) (.ref s.heap.objs.size) (.ref (s.heap.objs.size + 1)) ∧ (∃ a b, IsPair h1 (s.heap.objs.size + 3) a b) ∧ h1.IsListIter s.heap.objs.size l1 0 ∧ h1.IsListIter (s.heap.objs.size + 1) l2 0 ∧ h1.IsList l1 vs1.toArray ∧ h1.IsList l2 vs2.toArray :=
    ⟨hz, hTI, ⟨_, _, hTO⟩, hit1, hit2, hls1.at fun o e => hold l1 o e, hls2.at fun o e => hold l2 o e⟩
  refine W.self 0 _ _ _ hst ?_
  generalize hn0 : s.heap.objs.size = n0 at *
  have sizes : (vs1.toArray.size = vs1.length) ∧ (vs2.toArray.size = vs2.length) := ⟨by simp, by simp⟩
  obtain ⟨St, hSt⟩ : ∃ St : Nat → Heap → Prop, St = fun i h => IsZip h (n0 + 4) (n0 + 2) (n0 + 3) .none ∧ IsPair h (n0 + 2) (.ref n0) (.ref (n0 + 1)) ∧ (∃ a b, IsPair h (n0 + 3) a b) ∧ h.IsListIter n0 l1 i ∧ h.IsListIter (n0 + 1) l2 i ∧ h.IsList l1 vs1.toArray ∧ h.IsList l2 vs2.toArray := ⟨_, rfl⟩
  obtain ⟨wr, hwr0⟩ : ∃ wr : List Addr, wr = [n0 + 4, n0 + 2, n0 + 3, n0, n0 + 1] := ⟨_, rfl⟩
  have hwr : ∀ b ∈ wr, n0 ≤ b := by
    subst hwr0
    intro b hb
    simp only [List.mem_cons, List.not_mem_nil, or_false] at hb
    rcases hb with rfl | rfl | rfl | rfl | rfl
    · exact Nat.le_add_right _ _
    · exact Nat.le_add_right _ _
    · exact Nat.le_add_right _ _
    · exact Nat.le_refl _
    · exact Nat.le_add_right _ _
  have hex : ∀ i h, St i h → ∀ b ∈ wr, ∃ o, h.get? b = some o := by
    subst hSt hwr0
    rintro i h ⟨e1, e2, ⟨x, y, e3⟩, ⟨o4, e4, _⟩, ⟨o5, e5, _⟩, _⟩ b hb
    simp only [List.mem_cons, List.not_mem_nil, or_false] at hb
    rcases hb with rfl | rfl | rfl | rfl | rfl
    · exact ⟨_, e1⟩
    · exact ⟨_, e2⟩
    · exact ⟨_, e3⟩
    · exact ⟨_, e4⟩
    · exact ⟨_, e5⟩
  have hfr : ∀ i h h', St i h → (∀ b ∈ wr, ∀ o, h.get? b = some o → h'.get? b = some o) → (∀ o, h.get? l1 = some o → h'.get? l1 = some o) → (∀ o, h.get? l2 = some o → h'.get? l2 = some o) → St i h' := by
    subst hSt hwr0
    intro i h h' hs hw h1 h2
    refine W.frame i h h' hs fun b hb o e => ?_
    simp only [List.mem_cons, List.not_mem_nil, or_false] at hb
    rcases hb with rfl | rfl | rfl | rfl | rfl | rfl | rfl
    · exact hw _ (by simp) _ e
    · exact hw _ (by simp) _ e
    · exact hw _ (by simp) _ e
    · exact hw _ (by simp) _ e
    · exact hw _ (by simp) _ e
    · exact h1 _ e
    · exact h2 _ e
  have hst0 : St 0 h1 := by subst hSt; exact hst
  have hL : c.L < n0 := by rw [← hn0]; exact F.ns.lt
  have hw0 : ∀ b ∈ wr, c.h₀.get? b = none := fun b hb => Heap.get?_none_of_le (Nat.le_trans (Nat.le_trans F.above (Nat.le_of_lt hL)) (hwr b hb))
  have hLw : c.L ∉ wr := fun hb => Nat.lt_irrefl _ (Nat.lt_of_lt_of_le hL (hwr _ hb))
  have hnw : ∀ p ∈ g ++ nw, p.1 ∉ wr := fun p hp hb => Nat.lt_irrefl _ (Nat.lt_of_lt_of_le (hn0 ▸ Heap.lt_size (N p hp).1) (hwr _ hb))
  have old0 : ∀ b o, c.h₀.get? b = some o → b ∉ wr := fun b o e hb => by rw [hw0 b hb] at e; cases e
  have hsub : ∀ b, b ∉ wr → b ∉ [n0 + 4, n0 + 3, n0, n0 + 1] := by
    subst hwr0
    intro b hb h
    simp only [List.mem_cons, List.not_mem_nil, or_false, not_or] at hb h
    rcases h with h | h | h | h
    · exact hb.1 h
    · exact hb.2.2.1 h
    · exact hb.2.2.2.1 h
    · exact hb.2.2.2.2 h
  generalize hn : min vs1.length vs2.length = n at *
  refine codeAny_forLoop_any (fun k s' => ∃ i h2 tk m1 nw1 g1, s' = { s with heap := h2, toks := tk } ∧ St i h2 ∧ Fr c.h₀ c.L h2 m1 ∧ c.HG g1 ∧ News c.h₀ c.L h2 (g1 ++ nw1) ∧ (∀ p ∈ g1, ∀ q ∈ nw1, p.1 ≠ q.1) ∧ (∀ p ∈ g1 ++ nw1, p.1 ∉ wr) ∧ J i m1 nw1 ∧ i ≤ n ∧ k = n + 1 - i) ?_ (n + 1)
    ⟨0, h1, t', m, nw, g, rfl, hst0, F.keeps hold, hG, N.grown hold, hne, hnw, hj, Nat.zero_le _, rfl⟩
  rintro k' s' ⟨i, h2, tk, m1, nw1, g1, rfl, hst2, F2, hG1, N2, hne1, hnw1, hJ, hi, rfl⟩
  have next : ∀ h₁ : Heap, (∀ b o, b ∉ wr → h2.get? b = some o → h₁.get? b = some o) → Fr c.h₀ c.L h₁ m1 ∧ News c.h₀ c.L h₁ (g1 ++ nw1) := fun h₁ hk₁ =>
    ⟨⟨F2.ns.at' fun o e => hk₁ _ o hLw e, fun b o e => hk₁ b o (old0 b o e) (F2.keep b o e), F2.above⟩, fun p hp => ⟨hk₁ _ _ (hnw1 p hp) (N2 p hp).1, (N2 p hp).2⟩⟩
  by_cases hlt : i < n
  · refine W.item i _ _ _ hlt (by subst hSt; exact hst2) fun T vals h₁ tk₁ hP hTs hT hMid hk₁ => ?_
    obtain ⟨u, v, hu, hv, rfl⟩ := hP
    have hTw := W.apart _ _ _ hMid
    refine W.go _ _ _ _ _ _ _ _ hMid fun h₂ hst₂ hk₂ => ?_
    have hst₂ : St (i + 1) h₂ := by subst hSt; exact hst₂
    obtain ⟨F₁, N₁⟩ := next h₂ fun b o hb e => hk₂ b o (hsub b hb) (hk₁ b o (hsub b hb) e)
    obtain ⟨oT, eT, cT, nT, dT⟩ := hT
    have Nf : News c.h₀ c.L h₂ (ownOf c.h₀ wr h₂ ++ (g1 ++ nw1)) := fun p hp => by
      rcases List.mem_append.mp hp with hp | hp
      · exact news_ownOf hLw p hp
      · exact N₁ p hp
    refine wpAny_mono (E := NoE) (unpackN_ (items := #[u, v]) F₁ Nf ⟨oT, hk₂ _ _ hTw eT, cT, nT, dT⟩ rfl (by rw [hE c]; rfl) (by rw [hE c]; rfl) fun h5 F5 N5 => ?_) (fun _ _ z => z) fun _ _ z => z.elim
    have Iv2 : (c.hide (ownOf c.h₀ wr h₂)).Iv h5 nw1 := hid_iv hG1 hne1 (own_apart hnw1) N5
    rw [hE c]
    refine assignInOrder_cons (turn (c.hide (ownOf c.h₀ wr h₂)) i u v m1 nw1 tk₁ rfl rfl rfl rfl rfl (by simpa using hu) (by simpa using hv) hJ { s with heap := h5, toks := tk₁ } _ hk rfl F5 Iv2 fun _ h6 m6 nw6 t6 F6 I6 r6 => ?_)
    refine assignInOrder_cons (r6 _ _ hk rfl F6 I6 fun _ h7 m7 nw7 t7 F7 I7 r7 => ?_)
    refine assignInOrder_nil ?_
    refine wpAny_mono (E := NoE) (r7 _ _ hk rfl F7 I7 fun f h4 m4 nw4 t4 F4 I4 r4 => ?_) (fun _ _ z => z) fun _ _ z => z.elim
    obtain ⟨g4, hG4, N4, hne4, hoff4⟩ := hid_out I4
    have N4' : News c.h₀ c.L h4 (g4 ++ nw4) := KStb.news_of N4 fun p hp => mr hp
    have hend : J (i + 1) m4 nw4 → ∃ m', m' < n + 1 - i ∧ ∃ i h2 tk m1 nw1 g1, ({ s with heap := h4, toks := t4 } : Shared) = { s with heap := h2, toks := tk } ∧ St i h2 ∧ Fr c.h₀ c.L h2 m1 ∧ c.HG g1 ∧ News c.h₀ c.L h2 (g1 ++ nw1) ∧ (∀ p ∈ g1, ∀ q ∈ nw1, p.1 ≠ q.1) ∧ (∀ p ∈ g1 ++ nw1, p.1 ∉ wr) ∧ J i m1 nw1 ∧ i ≤ n ∧ m' = n + 1 - i := by
      intro hJ4
      have keepL : ∀ l o', (l, o') ∈ nw1 → (l, o') ∈ nw4 → ∀ o, h₂.get? l = some o → h4.get? l = some o := fun l o' z1 z2 o eo => by
        have e1 := (N₁ _ (mr z1)).1
        have e2 := (N4 _ (mr (mr z2))).1
        rw [eo] at e1
        rw [Option.some.inj e1]
        exact e2
      refine ⟨n + 1 - (i + 1), by omega, i + 1, h4, t4, m4, nw4, g4, rfl, ?_, F4, hG4, N4', hne4, ?_, hJ4, hlt, rfl⟩
      · exact hfr _ _ _ hst₂ (fun b hb o eo => (N4 (b, o) (ml (mem_ownOf hb (hw0 b hb) eo))).1) (keepL _ _ (hl _ _ _ hJ).1 (hl _ _ _ hJ4).1) (keepL _ _ (hl _ _ _ hJ).2 (hl _ _ _ hJ4).2)
      · intro p hp hb
        obtain ⟨o, ho⟩ := hex _ _ hst₂ _ hb
        exact hoff4 p hp _ (mem_ownOf hb (hw0 _ hb) ho) rfl
    cases f with
    | brk => exact k _ _ _ _ _ F4 ⟨g4, hG4, N4', hne4⟩ r4
    | ret v => exact k _ _ _ _ _ F4 ⟨g4, hG4, N4', hne4⟩ r4
    | next => exact hend r4
    | cont => exact hend r4
  · have hin : i = n := by omega
    subst hin
    refine W.done _ _ _ (by subst hSt; exact hst2) fun h₁ tk₁ hk₁ => wpAny_execs_nil ?_
    obtain ⟨F₁, N₁⟩ := next h₁ fun b o hb e => hk₁ b o (hsub b hb) e
    exact k _ _ _ _ _ F₁ ⟨g1, hG1, N₁, hne1⟩ (done _ _ _ hJ)
noncomputable def AsT3 (sc : Scope) (c : Cx) (tg : Expr) (rest : List Stmt) (R : Flow → Lc → Led → Nat → Prop) (v : Value) (m1 : Lc) (nw1 : Led) (t1 : Nat) : Prop := Go sc c (assign tg (c.env sc) v) m1 nw1 t1 fun _ m2 nw2 t2 => Go sc c (execs rest (c.env sc)) m2 nw2 t2 R
theorem AsT3.mk {tg : Expr} {rest : List Stmt} {R : Flow → Lc → Led → Nat → Prop} {v : Value} (h : Go sc c (assign tg (c.env sc) v) m nw t fun _ m2 nw2 t2 => Go sc c (execs rest (c.env sc)) m2 nw2 t2 R) : AsT3 sc c tg rest R v m nw t := h
theorem Go.asgT3 {a b d value : Expr} {tp pos : Pos} {n : Nat} {rest : List Stmt} {R : Flow → Lc → Led → Nat → Prop} (hs : swapsWithSole [.Tuple [a, b, d] n tp] value pos.line (c.env sc) = Pure.pure false)
    (hw : swappedStores [.Tuple [a, b, d] n tp] value (c.env sc) = Pure.pure none)
    (h : Go sc c (eval value (c.env sc)) m nw t (AsT3 sc c (.Tuple [a, b, d] n tp) rest R)) : Go sc c (execs (.Assign [.Tuple [a, b, d] n tp] value pos :: rest) (c.env sc)) m nw t R := by
  intro s Q hk ht F I k
  refine wpAny_execs_cons (Assign_Tuple (h s _ hk ht F I fun v h' m1 nw1 t1 F1 I1 r1 => ?_) hs hw)
  exact r1 _ _ hk rfl F1 I1 fun _ h2 m2 nw2 t2 F2 I2 r2 => r2 _ Q hk rfl F2 I2 k
end
end
section
noncomputable def CmpS (op : CmpOp) (a b : Value) (q : Bool) : Prop := ∀ (prog : Program) (w : World) (A : Around) (E : Value → Shared → Prop) (s : Shared) (Q : Value → Shared → Prop), Q (.bool q) s → wpAny (model prog w) A (compareOp op a b) Q E s
theorem CmpS.le {x y : Str} {t u : Tok} : CmpS .LtE (.str x t) (.str y u) (!(y.cps.toList < x.cps.toList)) := fun _ _ _ _ _ _ h => P.le_str h
theorem ItS.str {target : Expr} {x : Str} {t9 : Tok} (go : ∀ (prog : Program) (w : World) (A : Around) I v s' Q' E', Q' () s' → wpAny (model prog w) A (letOwnedTupleGo target (.ref I) v) Q' E' s') : ItS target (.str x t9) [] x.cps.size (SignAt x) := by
  intro prog w A h₀ L m s news Q E hh F N hs k
  have fin : ∀ (o : Obj) (St : Nat → Heap → Prop), Walks prog w A s.heap.objs.size [s.heap.objs.size] [s.heap.objs.size] x.cps.size (SignAt x) St → St 0 (s.heap.push o) → (∀ i h, St i h → ∃ o', h.get? s.heap.objs.size = some o') → Q (.ref s.heap.objs.size) { s with heap := s.heap.push o } := fun o St W hst hex => by
    have sz : (s.heap.push o).objs.size = s.heap.objs.size + 1 := Heap.size_push ..
    refine k s.heap.objs.size (s.heap.push o) [s.heap.objs.size] [s.heap.objs.size] St W hst (fun i h hs b hb => by rw [List.mem_singleton.mp hb]; exact hex i h hs) (fun b hb => .inl hb) (fun b hb => by rw [sz, List.mem_singleton.mp hb]; exact Nat.lt_succ_self _) (fun b hb => by rw [List.mem_singleton.mp hb]; exact Nat.le_refl _) (fun b o e => Heap.get?_push_of_some _ e) fun i v s' Q' E' _ _ hq => go _ _ _ _ v s' Q' E' hq
  cases ha : x.cps.all (· < 128)
  · exact wpAny_pyIter_wide ha (fin _ _ (Walks.strWide hh _ x t9) ⟨_, Heap.get?_push_size _ rfl, rfl, rfl⟩ fun i h hs => by obtain ⟨o, e, _⟩ := hs; exact ⟨o, e⟩)
  · exact wpAny_pyIter_ascii ha (fin _ _ (Walks.strAscii hh _ x t9) ⟨_, Heap.get?_push_size _ rfl, rfl, rfl⟩ fun i h hs => by obtain ⟨o, e, _⟩ := hs; exact ⟨o, e⟩)
theorem ItS.tup {target : Expr} {l : Addr} {vs : List Value} {kl : Nat} (go : ∀ (prog : Program) (w : World) (A : Around) I v s' Q' E', Q' () s' → wpAny (model prog w) A (letOwnedTupleGo target (.ref I) v) Q' E' s') : ItS target (.ref l) [(l, tupO vs kl)] vs.length (fun i v => vs[i]? = some v) := by
  intro prog w A h₀ L m s news Q E hh F N hs k
  have hm := N _ (hs _ (.head _))
  have hls : s.heap.IsTuple l vs.toArray := ⟨_, hm.1, rfl, kl, rfl⟩
  have hlt : l < s.heap.objs.size := Heap.lt_size hm.1
  refine wpAny_pyIter_tuple hls ?_
  have W := Walks.tuple (prog := prog) (w := w) hh s.heap.objs.size l (Nat.ne_of_lt hlt) vs.toArray
  have hszv : vs.toArray.size = vs.length := by simp
  have ev : (fun (i : Nat) (v : Value) => vs.toArray[i]? = some v) = fun i v => vs[i]? = some v := by funext i v; simp
  rw [hszv, ev] at W
  have sz : ∀ o, (s.heap.push o).objs.size = s.heap.objs.size + 1 := fun o => Heap.size_push ..
  refine k _ _ _ _ _ W ?st (fun i h hst b hb => ?_) (fun b hb => ?_) (fun b hb => ?_) (fun b hb => ?_) (fun b o e => Heap.get?_push_of_some _ e) ?_
  case st => exact ⟨⟨_, Heap.get?_push_size _ rfl, rfl, rfl⟩, hls.at fun o e => Heap.get?_push_of_some _ e⟩
  · obtain ⟨⟨o, ho, _⟩, _⟩ := hst
    obtain rfl := List.mem_singleton.mp hb
    exact ⟨o, ho⟩
  · rcases List.mem_cons.mp hb with rfl | hb
    · exact .inl (.head _)
    · exact .inr ⟨_, by rw [List.mem_singleton.mp hb]; exact .head _⟩
  · rw [sz]
    rcases List.mem_cons.mp hb with rfl | hb
    · exact Nat.lt_succ_self _
    · exact Nat.lt_succ_of_lt ((List.mem_singleton.mp hb) ▸ hlt)
  · rw [List.mem_singleton.mp hb]; exact Nat.le_refl _
  · intro i v s' Q' E' hv hst hq
    exact go _ _ _ _ v s' Q' E' hq
section
variable {sc : Scope} {c : Cx} {m : Lc} {nw : Led} {t t' : Nat}
theorem Go.chain3 {l r1 r2 : Expr} {o1 o2 : CmpOp} {pos : Pos} {whole : Sem Value} {t1 t2 : Nat} {a b d : Value} {q1 q2 : Bool} {R : Bool → Lc → Led → Nat → Prop} (hm : lastMarks [o1, o2] [r1, r2] = false) (P : PV (gk.heap_1 c.w.params) sc c.cl m nw l t a t1) (P1 : PV (gk.heap_1 c.w.params) sc c.cl m nw r1 t1 b t2) (C1 : CmpS o1 a b q1) (P2 : PV (gk.heap_1 c.w.params) sc c.cl m nw r2 t2 d t') (C2 : CmpS o2 b d q2)
    (h1 : q1 = true → R q2 m nw t') (h2 : q1 = false → R false m nw t2) : Go sc c (isTrue (.Compare l [o1, o2] [r1, r2] pos) (c.env sc) whole) m nw t R := by
  intro s Q hk ht F I k
  have I9 := I
  obtain ⟨g, hG, N, hne⟩ := I
  subst ht
  have N2 := KStb.news_of N fun p hp => mr hp
  refine isTrue_chain (P.sound c.ok rfl F c.X (topRead_of c.T) N2 (test_link (P1.sound (s := { s with toks := t1 }) c.ok rfl F c.X (topRead_of c.T) N2 (C1 _ _ _ _ _ _ (wpAny_truthy_bool ?_))))) hm
  cases q1 with
  | false => exact k _ s.heap _ _ _ F I9 (h2 rfl)
  | true => exact test_last (P2.sound (s := { s with toks := t2 }) c.ok rfl F c.X (topRead_of c.T) N2 (C2 _ _ _ _ _ _ (wpAny_truthy_bool (k _ s.heap _ _ _ F I9 (h1 rfl)))))
theorem Go.inStr {x y : Str} {u v : Tok} {R : Value → Lc → Led → Nat → Prop} (h : R (.bool !(Builtin.Str.occurrences x y 0 x.length 1).isEmpty) m nw t) : Go sc c (compareOp .In (.str y u) (.str x v)) m nw t R := by
  intro s Q hk ht F I k
  subst ht
  exact in_str (k _ s.heap _ _ _ F I h)
theorem Go.ordB {x : Nat} {u : Tok} {R : Value → Lc → Led → Nat → Prop} (h : R (.int (x : Int) t) m nw (t + 1)) : Go sc c (call (.builtin "ord") [.str ⟨#[x]⟩ u]) m nw t R := by
  intro s Q hk ht F I k
  subst ht
  exact P.ord_of_char (k _ s.heap _ _ _ F I h)
theorem Go.chrB {i : Int} {u : Tok} {R : Value → Lc → Led → Nat → Prop} (h0 : 0 ≤ i) (h1 : i ≤ 1114111) (h : R (.str ⟨#[i.toNat]⟩ t) m nw (t + 1)) : Go sc c (call (.builtin "chr") [.int i u]) m nw t R := by
  intro s Q hk ht F I k
  subst ht
  exact chr_of_range h0 h1 (k _ s.heap _ _ _ F I h)
theorem Go.strM {e a : Expr} {es : List Expr} {nm : Str} {apos pos : Pos} {x : Str} {u : Tok} {vs : List Value} {t1 : Nat} {bn : String} {R : Value → Lc → Led → Nat → Prop} {pl : Sem Bool} (P : PV (gk.heap_1 c.w.params) sc c.cl m nw e t (.str x u) t1)
    (hg : ∀ (M : Model) (A : Around) (E : Value → Shared → Prop) (s : Shared) (pl : Sem Bool) (Q : Value × List Value → Shared → Prop), Q (.builtin bn, [.str x u]) s → wpAny M A (getMethod (.str x u) nm pl) Q E s)
    (he : eval (.Call (.Attribute e nm apos) (a :: es) [] pos) (c.env sc) = (do
      let ov ← eval e (c.env sc)
      standAt apos.atName
      let (f, first) ← holding [ov] (getMethod ov nm pl)
      callWith pos f first (backTo pos (starEach (a :: es) (c.env sc))) []))
    (Ps : PVs (gk.heap_1 c.w.params) sc c.cl m nw (a :: es) t1 vs t') (h : Go sc c (call (.builtin bn) (.str x u :: vs)) m nw t' R) : Go sc c (eval (.Call (.Attribute e nm apos) (a :: es) [] pos) (c.env sc)) m nw t R := by
  intro s Q hk ht F I k
  have I9 := I
  obtain ⟨g, hG, N, hne⟩ := I
  subst ht
  have N2 := KStb.news_of N fun p hp => mr hp
  refine MethodCall_ (pl := pl) (P.sound c.ok rfl F c.X (topRead_of c.T) N2 (hg _ _ _ _ _ _ ?_)) he
  have hst : (backTo pos (starEach (a :: es) (c.env sc))).any (·.1) = false := plain_any Ps
  have hq := args_pure (pos := pos) (prog := c.prog) (w := c.w) (A := c.A sc) (E := NoE) (Q := fun vs s₁ => wpAny (model c.prog c.w) (c.A sc) (call (.builtin bn) (.str x u :: vs)) Q NoE s₁) (s := { s with toks := t1 }) c.ok F c.X (topRead_of c.T) N2 Ps (h { s with toks := t' } Q hk rfl F I9 k)
  have hs9 : starEach (a :: es) (c.env sc) = (false, eval a (c.env sc)) :: starEach es (c.env sc) := by cases Ps with | cons p q => exact plain_star p
  rw [hs9] at hst hq ⊢
  exact Calls.callWith_builtin hst (Calls.evalArgs_plain hq)
theorem Go.join {x : Str} {u : Tok} {l : Addr} {ys : List (Str × Tok)} {texts : List Str} {k : Nat} {R : Value → Lc → Led → Nat → Prop} (hm : (l, listOf (strValues ys).toArray k) ∈ nw) (ht9 : ys.map (·.1) = texts) (hok : JoinOk x texts = true) (h : ∀ t1 t2, R (.str (Txt.join x texts) t1) m nw t2) : Go sc c (call (.builtin "str.join") [.str x u, .ref l]) m nw t R := by
  intro s Q hk ht F I kk
  have I9 := I
  obtain ⟨g, hG, N, hne⟩ := I
  exact SC.join (PySem.IsL.isList (n := k) (N _ (mr hm)).1) ht9 hok fun t1 t2 => kk _ s.heap _ _ _ F I9 (h t1 t2)
theorem Go.strip {x y z : Str} {u v : Tok} {R : Value → Lc → Led → Nat → Prop} (e : Txt.stripChars x z = y) (hz : x.length ≤ sizeLine) (h : ∀ t1 t2, R (.str y t1) m nw t2) : Go sc c (call (.builtin "str.strip") [.str x u, .str z v]) m nw t R := by
  intro s Q hk ht F I kk
  exact SC.stripChars (fun t1 t2 => by rw [e]; exact kk _ s.heap _ _ _ F I (h t1 t2)) hz
end
end
section
section
variable {sc : Scope} {c : Cx} {m : Lc} {nw : Led} {t t' : Nat}
theorem Go.methE {o a : Expr} {es : List Expr} {name : Str} {apos pos : Pos} {pl : Sem Bool} {x C dx f : Addr} {ds : List DictEntry} {n b : Nat} {fs : Str → Option Value} {t1 : Nat} {R : Value → Lc → Led → Nat → Prop} (P : PV (gk.heap_1 c.w.params) sc c.cl m nw o t (.ref x) t1) (h1 : (x, instObj C dx) ∈ nw) (h2 : (dx, dictOf ds n) ∈ nw) (h3 : Flds ds fs b) (hl : fs name = none) (_hf0 : findIn (gk.heap_1 c.w.params) (.ref C) name = some (some (.ref f))) (hf : methOk (gk.heap_1 c.w.params) C f name = true)
    (he : eval (.Call (.Attribute o name apos) (a :: es) [] pos) (c.env sc) = (do
      let ov ← eval o (c.env sc)
      standAt apos.atName
      let (f, first) ← holding [ov] (getMethod ov name pl)
      callWith pos f first (backTo pos (starEach (a :: es) (c.env sc))) []))
    (he2 : starEach (a :: es) (c.env sc) = (false, eval a (c.env sc)) :: starEach es (c.env sc)) (hp : (backTo pos (starEach es (c.env sc))).any (·.1) = false)
    (h : Go sc c (spliced (backTo pos (starEach (a :: es) (c.env sc)))) m nw t1 fun vs m1 nw1 t2 => Go sc c (call (.ref f) (.ref x :: vs)) m1 nw1 t2 R) : Go sc c (eval (.Call (.Attribute o name apos) (a :: es) [] pos) (c.env sc)) m nw t R := by
  intro s Q hk ht F I k
  have I9 := I
  obtain ⟨g, hG, N, hne⟩ := I
  subst ht
  unfold methOk at hf
  simp only [Bool.and_eq_true, beq_iff_eq] at hf
  obtain ⟨⟨⟨f1, f2⟩, f3⟩, f4⟩ := hf
  have N2 := KStb.news_of N fun p hp => List.mem_append_right g hp
  refine MethodCall_ (pl := pl) (P.sound c.ok rfl F c.X (topRead_of c.T) N2 ?_) he
  refine method_inst (s := { s with toks := t1 }) (es := ds) (n := n) F c.X (InstAt.of_news N (mr h1) (mr h2)) f1 f2 f3 (by rw [h3.1, hl]) ?_
  exact callWith_K c.X f4 (h { s with toks := t1 } _ hk rfl F I9 fun vs h' m' nw' t' F' I' r => ⟨c.X.keeps F'.keep, r _ Q hk rfl F' I' k⟩) he2 hp
theorem Go.notV {e : Expr} {pos : Pos} {R : Value → Lc → Led → Nat → Prop} (h : Go sc c (eval e (c.env sc)) m nw t (BoR fun b => R (.bool (!b)))) : Go sc c (eval (.UnaryOp .Not e pos) (c.env sc)) m nw t R := by
  intro s Q hk ht F I k
  refine UnaryOp_ (h s _ hk ht F I fun v h' m1 nw1 t1 F1 I1 r1 => ?_)
  obtain ⟨b, rfl, r2⟩ := r1
  exact not_of (wpAny_truthy_bool (k _ _ _ _ _ F1 I1 r2))
noncomputable def SetA (sc : Scope) (c : Cx) (oe : Expr) (name : Str) (rest : List Stmt) (R : Flow → Lc → Led → Nat → Prop) (v : Value) (m1 : Lc) (nw1 : Led) (t1 : Nat) : Prop := ∃ o C dx es n f b t2, PV (gk.heap_1 c.w.params) sc c.cl m1 nw1 oe t1 (.ref o) t2 ∧ (o, instObj C dx) ∈ nw1 ∧ (dx, dictOf es n) ∈ nw1 ∧ Flds es f b ∧ b ≤ 900 ∧ setOk (gk.heap_1 c.w.params) C name = true ∧
      ∀ nw' es' n' f', (o, instObj C dx) ∈ nw' → (dx, dictOf es' n') ∈ nw' → Keep dx (dictOf es n) nw1 nw' → Flds es' f' (b + 1) → Up1 f f' name v → Go sc c (execs rest (c.env sc)) m1 nw' (t2 + 2) R
theorem SetA.mk {oe : Expr} {name : Str} {rest : List Stmt} {R : Flow → Lc → Led → Nat → Prop} {v : Value} {o C dx : Addr} {es : List DictEntry} {n b : Nat} {f : Str → Option Value} (P : PV (gk.heap_1 c.w.params) sc c.cl m nw oe t (.ref o) t') (h1 : (o, instObj C dx) ∈ nw) (h2 : (dx, dictOf es n) ∈ nw) (h3 : Flds es f b) (hb : b ≤ 900) (hs : setOk (gk.heap_1 c.w.params) C name = true)
    (h : ∀ nw' es' n' f', (o, instObj C dx) ∈ nw' → (dx, dictOf es' n') ∈ nw' → Keep dx (dictOf es n) nw nw' → Flds es' f' (b + 1) → Up1 f f' name v → Go sc c (execs rest (c.env sc)) m nw' (t' + 2) R) : SetA sc c oe name rest R v m nw t := ⟨o, C, dx, es, n, f, b, t', P, h1, h2, h3, hb, hs, h⟩
theorem Go.setAE {e oe : Expr} {name : Str} {pos' pos : Pos} {rest : List Stmt} {R : Flow → Lc → Led → Nat → Prop} (hw : swapsWith e (some (.Attribute oe name pos')) pos.line (c.env sc) = Pure.pure false)
    (h : Go sc c (eval e (c.env sc)) m nw t (SetA sc c oe name rest R)) : Go sc c (execs (.Assign [.Attribute oe name pos'] e pos :: rest) (c.env sc)) m nw t R := by
  intro s Q hk ht F I k
  refine wpAny_execs_cons (plainObj_wpAny_Assign_Attribute (h s _ hk ht F I fun v h' m1 nw1 t1 F1 I1 r => ?_) hw)
  obtain ⟨o, C, dx, es, n, f, b, t2, P, h1, h2, h3, hb, hs, r⟩ := r
  obtain ⟨s1, s2, s3, s4⟩ := setOk_inv hs
  obtain ⟨g, hG, N, hne⟩ := I1
  have f3 := flds_put (name := name) (hsh := PyData.keyHash c.w.params name) (t := t2 + 1) (v := v) h3
  refine P.sound c.ok rfl F1 c.X (topRead_of c.T) (KStb.news_of N fun p hp => mr hp) ?_
  refine set_dict (es' := putL name (PyData.keyHash c.w.params name) (.str name (t2 + 1)) v es) (n' := putN name es n) (ox := instObj C dx) (news' := g ++ (dx, dictOf (putL name (PyData.keyHash c.w.params name) (.str name (t2 + 1)) v es) (putN name es n)) :: nw1.filter fun p => p.1 != dx) F1 c.X (filt_sub N h2) (InstAt.of_news N (List.mem_append_right _ h1) (List.mem_append_right _ h2)) rfl s1 s2 s3 s4 (by rw [h3.1]; rfl) rfl ?_ (Nat.le_trans f3.2 (by omega)) fun h2' F2 N2 => ?_
  · exact upd_app filt_ne fun p hp => hne p hp _ h2
  · exact r _ _ _ _ ((filt_keep N h2) _ h1 (.inl fun e => by
      have e1 := (N _ (List.mem_append_right g h1)).1
      have e2 := (N _ (List.mem_append_right g h2)).1
      rw [show (o, instObj C dx).1 = dx from e] at e1
      exact absurd (Option.some.inj (e1.symm.trans e2)) (fun z => by cases z))) (.head _) (filt_keep N h2) f3 up1_mk _ Q hk rfl F2 (Cx.Iv.mut hG hne h2 N2) k
theorem gm_join {x : Str} {u : Tok} (M : Model) (A : Around) (E : Value → Shared → Prop) (s : Shared) (pl : Sem Bool) (Q : Value × List Value → Shared → Prop) (h : Q (.builtin "str.join", [.str x u]) s) : wpAny M A (getMethod (.str x u) (Str.ofString "join") pl) Q E s := by with_reducible exact GM.join h
theorem gm_strip {x : Str} {u : Tok} (M : Model) (A : Around) (E : Value → Shared → Prop) (s : Shared) (pl : Sem Bool) (Q : Value × List Value → Shared → Prop) (h : Q (.builtin "str.strip", [.str x u]) s) : wpAny M A (getMethod (.str x u) (Str.ofString "strip") pl) Q E s := by with_reducible exact GM.strip h
theorem Go.strE {e a : Expr} {es : List Expr} {nm : Str} {apos pos : Pos} {x : Str} {u : Tok} {t1 : Nat} {bn : String} {R : Value → Lc → Led → Nat → Prop} {pl : Sem Bool} (P : PV (gk.heap_1 c.w.params) sc c.cl m nw e t (.str x u) t1)
    (hg : ∀ (M : Model) (A : Around) (E : Value → Shared → Prop) (s : Shared) (pl : Sem Bool) (Q : Value × List Value → Shared → Prop), Q (.builtin bn, [.str x u]) s → wpAny M A (getMethod (.str x u) nm pl) Q E s)
    (he : eval (.Call (.Attribute e nm apos) (a :: es) [] pos) (c.env sc) = (do
      let ov ← eval e (c.env sc)
      standAt apos.atName
      let (f, first) ← holding [ov] (getMethod ov nm pl)
      callWith pos f first (backTo pos (starEach (a :: es) (c.env sc))) []))
    (he2 : starEach (a :: es) (c.env sc) = (false, eval a (c.env sc)) :: starEach es (c.env sc)) (hp : (backTo pos (starEach es (c.env sc))).any (·.1) = false)
    (h : Go sc c (spliced (backTo pos (starEach (a :: es) (c.env sc)))) m nw t1 fun vs m1 nw1 t2 => Go sc c (call (.builtin bn) (.str x u :: vs)) m1 nw1 t2 R) : Go sc c (eval (.Call (.Attribute e nm apos) (a :: es) [] pos) (c.env sc)) m nw t R := by
  intro s Q hk ht F I k
  have I9 := I
  obtain ⟨g, hG, N, hne⟩ := I
  subst ht
  have N2 := KStb.news_of N fun p hp => mr hp
  refine MethodCall_ (pl := pl) (P.sound c.ok rfl F c.X (topRead_of c.T) N2 (hg _ _ _ _ _ _ ?_)) he
  exact callWith_method1 (h { s with toks := t1 } _ hk rfl F I9 fun vs h' m1 nw1 t2 F1 I1 r => r _ Q hk rfl F1 I1 k) he2 hp
noncomputable def SubR (R : Value → Lc → Led → Nat → Prop) (D : Addr) (v : Value) (m : Lc) (nw : Led) (t : Nat) : Prop := ∃ (k : Int) (u : Tok) (w : Value), v = .int k u ∧ ItemAt nw D k w ∧ R w m nw t
theorem SubR.mk {R : Value → Lc → Led → Nat → Prop} {D : Addr} {k : Int} {u : Tok} {w : Value} (hi : ItemAt nw D k w) (h : R w m nw t) : SubR R D (.int k u) m nw t := ⟨k, u, w, rfl, hi, h⟩
theorem Go.subE {e ix : Expr} {pos : Pos} {t1 : Nat} {D : Addr} {R : Value → Lc → Led → Nat → Prop} (P : PV (gk.heap_1 c.w.params) sc c.cl m nw e t (.ref D) t1) (hix : ∀ (D : Addr) (k : Int) (u : Tok), subscripted ix false (.ref D) (.int k u) = operate [.ref D, .int k u] (getItem (.ref D) (.int k u))) (h : Go sc c (eval ix (c.env sc)) m nw t1 (SubR R D)) : Go sc c (eval (.Subscript e ix pos) (c.env sc)) m nw t R := by
  intro s Q hk ht F I k
  have I9 := I
  obtain ⟨g, hG, N, hne⟩ := I
  subst ht
  refine Subscript_ (P.sound c.ok rfl F c.X (topRead_of c.T) (KStb.news_of N fun p hp => mr hp) (h { s with toks := t1 } _ hk rfl F I9 fun v h' m1 nw1 t2 F1 I1 r => ?_))
  obtain ⟨k9, u, w, rfl, hi, r⟩ := r
  have I8 := I1
  obtain ⟨g1, hG1, N1, hne1⟩ := I1
  have hq : Q w { s with heap := h', toks := t2 } := k _ _ _ _ _ F1 I8 r
  rcases hi with ⟨vs, n, hm, h0, h1, hx⟩ | ⟨vs, n, j, hm, h0, h1, hj, hx⟩
  · exact item_led (s := { s with heap := h', toks := t2 }) N1 (mr hm) h0 h1 hx hq (hix _ _ _)
  · exact item_tup (s := { s with heap := h', toks := t2 }) N1 (mr hm) h0 h1 hj hx hq (hix _ _ _)
theorem bb_fun {p q x y : Bool} : ((List.range 2).all (fun j => match j with | 0 => p == x | _ => q == y) && true) = (p == x && q == y) := by
  rw [show List.range 2 = [0, 1] from rfl]
  simp
theorem Go.eqBB {a b : Addr} {na nb : Nat} {p q x y : Bool} {R : Value → Lc → Led → Nat → Prop} (h1 : (a, tupO [.bool p, .bool q] na) ∈ nw) (h2 : (b, tupO [.bool x, .bool y] nb) ∈ nw) (hu : c.un + 8 < cLine) (h : R (.bool (p == x && q == y)) m nw t) : Go sc c (compareOp .Eq (.ref a) (.ref b)) m nw t R := by
  intro s Q hk ht F I k
  have I9 := I
  obtain ⟨g, hG, N, hne⟩ := I
  subst ht
  refine SeqAt.RcAt.tuples (A := c.A sc) (e := fun j => match j with | 0 => p == x | _ => q == y) ⟨_, (N _ (mr h1)).1, rfl, na, rfl⟩ ⟨_, (N _ (mr h2)).1, rfl, nb, rfl⟩ (by rw [Cx.units]; omega) (fun j h1 h2 => ?_) c.prog c.w NoE Q ?_
  · match j, h1, h2 with
    | 0, _, _ => exact SeqAt.EqAt.bool_bool _ _
    | 1, _, _ => exact SeqAt.EqAt.bool_bool _ _
  · show Q (.bool ((List.range 2).all (fun j => match j with | 0 => p == x | _ => q == y) && true)) s
    rw [bb_fun]
    exact k _ s.heap _ _ _ F I9 h
theorem Go.neBB {a b : Addr} {na nb : Nat} {p q x y : Bool} {R : Value → Lc → Led → Nat → Prop} (h1 : (a, tupO [.bool p, .bool q] na) ∈ nw) (h2 : (b, tupO [.bool x, .bool y] nb) ∈ nw) (hu : c.un + 8 < cLine) (h : R (.bool (!(p == x && q == y))) m nw t) : Go sc c (compareOp .NotEq (.ref a) (.ref b)) m nw t R := by
  intro s Q hk ht F I k
  have I9 := I
  obtain ⟨g, hG, N, hne⟩ := I
  subst ht
  refine SeqAt.RcNeAt.tuples (A := c.A sc) (e := fun j => match j with | 0 => p == x | _ => q == y) ⟨_, (N _ (mr h1)).1, rfl, na, rfl⟩ ⟨_, (N _ (mr h2)).1, rfl, nb, rfl⟩ (by rw [Cx.units]; omega) (fun j h1 h2 => ?_) c.prog c.w NoE Q ?_
  · match j, h1, h2 with
    | 0, _, _ => exact SeqAt.EqAt.bool_bool _ _
    | 1, _, _ => exact SeqAt.EqAt.bool_bool _ _
  · show Q (.bool (!((List.range 2).all (fun j => match j with | 0 => p == x | _ => q == y) && true))) s
    rw [bb_fun]
    exact k _ s.heap _ _ _ F I9 h
theorem Go.isnR {a : Addr} {R : Value → Lc → Led → Nat → Prop} (h : R (.bool false) m nw t) : Go sc c (compareOp .IsNot (.ref a) (.ref a)) m nw t R := by
  intro s Q hk ht F I k
  subst ht
  exact wpAny_isNot_ref_self (k _ s.heap _ _ _ F I h)
end
end
section
section
set_option compiler.extract_closed false
open Lean
def nmE (s : String) : Ident := mkIdent (.num (.str (.str (.str (.str .anonymous s) "_@") "Mine") "_hyg") 1)
def tacE (k : String) (as : Array Syntax) : Syntax := .node .none (.str `Lean.Parser.Tactic k) as
def wordE (ns s : String) : Syntax := .node .none (.str ns.toName ("tactic" ++ s.capitalize)) #[.atom .none s]
def nullE (as : Array Syntax) : Syntax := .node .none `null as
def wrapE (k s : String) (t : Syntax) : Syntax := tacE k #[.atom .none s, tacE "tacticSeq" #[tacE "tacticSeq1Indented" #[nullE #[t]]]]
def clo (c : Char) : Syntax := match c with
  | 's' => wordE "PySem.W" "tb_start"
  | 'n' => wordE "PySem.W" "kpr_short"
  | 'r' => wordE "PySem.W" "tb_rel"
  | 'a' => wrapE "withReducible" "with_reducible" (tacE "assumption" #[.atom .none "assumption"])
  | 'A' => tacE "assumption" #[.atom .none "assumption"]
  | 'e' => tacE "exact" #[.atom .none "exact", mkIdent `rfl]
  | 'o' => wordE "PySem.W" "ktr_room"
  | 'i' => wordE "PySem.W" "k_is"
  | 'd' => tacE "decide" #[.atom .none "decide", tacE "optConfig" #[nullE #[tacE "configItem" #[tacE "posConfigItem" #[.atom .none "+", mkIdent `kernel]]]]]
  | 'D' => tacE "decide" #[.atom .none "decide", tacE "optConfig" #[nullE #[]]]
  | 'k' => wordE "" "kernel_rfl"
  | 'K' => wordE "PyProof.Rows" "kernel_rfl!"
  | 'b' => wordE "PyProof.Rows" "boot_fast"
  | 't' => wordE "PySem.W" "kit_is"
  | 'T' => wordE "PySem.W" "kde_strs"
  | 'z' => wordE "PySem.W" "k_sizes"
  | 'l' => tacE "exact" #[.atom .none "exact", .node .none `Lean.Parser.Term.app #[mkIdent `locs, nullE #[mkIdent `rfl]]]
  | 'u' => wrapE "withUnfoldingAll" "with_unfolding_all" (tacE "tacticRfl" #[.atom .none "rfl"])
  | 'm' => wordE "" "mul_fits"
  | '%' => wordE "PySem.W" "kct_strs"
  | _ => tacE "fail" #[.atom .none "fail", nullE #[]]
def goE (f : Char → MacroM Syntax) (cs : List Char) : MacroM (Array Term × Array (TSyntax `tactic)) := do
  let (_, hs, ts) ← cs.foldlM (init := ((0 : Nat), (#[] : Array Term), (#[] : Array (TSyntax `tactic)))) fun (k, hs, ts) c => do
    if c == '!' || c == '~' then pure (k, hs, ts)
    else if c.isDigit then pure (c.toNat - 48, hs, ts)
    else do
      let h := mkIdent (← Macro.addMacroScope (Name.mkSimple ("a" ++ toString hs.size)))
      let t : TSyntax `tactic := ⟨← f c⟩
      let xs : Array Term := Array.replicate k (nmE "q")
      let t ← if k == 0 then pure t else `(tactic| (intro $xs*; $t))
      pure (0, hs.push (← `(?$h)), ts.push (← `(tactic| case $h:ident => $t:tactic)))
  pure (hs, ts)
def stepE (f : Char → MacroM Syntax) (nm cs : String) (ns : List String) : MacroM Syntax := do
  let id := mkIdent nm.toName
  let (hs, ts) ← goE f cs.toList
  let go := (cs.toList.filter (· == '!')).length
  let hs := hs ++ Array.replicate go (← `(?_))
  let r ← `(tactic| refine' $id $hs*)
  let r ← if cs.toList.contains '~' then pure r else `(tactic| with_reducible $r:tactic)
  let xs : Array Term := (ns.map fun s => (nmE s : Term)).toArray
  let ts ← if ns.isEmpty then pure ts else pure (ts.push (← if go > 1 then `(tactic| all_goals intro $xs*) else `(tactic| intro $xs*)))
  `(tactic| ($r:tactic; $ts;*))
def rowE (f : Char → MacroM Syntax) (r : String) : MacroM Syntax :=
  if r.startsWith "=" then f (r.toList.getD 1 ' ')
  else match r.splitOn " " with
    | [a, b, n] => stepE f a b (match n.toNat? with | some k => List.replicate k "q" | none => n.splitOn ",")
    | [a, b] => stepE f a b []
    | _ => stepE f r "" []
def stepsF (f : Char → MacroM Syntax) (rs : List String) : MacroM (Array (TSyntax `tactic)) := do
  let ts ← rs.mapM fun r => do pure (⟨← rowE f r⟩ : TSyntax `tactic)
  pure ts.toArray
def firstE (ts : Array (TSyntax `tactic)) : MacroM (TSyntax `tactic) :=
  let ts := ts.push ⟨clo ' '⟩
  `(tactic| first $[| $ts:tactic]*)
def chunkF (f : Char → MacroM Syntax) (rs : String) : MacroM (TSyntax `tactic) := do firstE (← stepsF f (rs.splitOn "; "))
def cloE (c : Char) : MacroM Syntax := match c with
  | 'w' => chunkF (fun c => pure (clo c)) "or_tag ~e; or_cell ~ea; or_addr ~s"
  | 'W' => chunkF (fun c => pure (clo c)) "Or.inl ~e; Or.inr ~s"
  | 'c' => chunkF (fun c => pure (clo c)) "=e; clos_of ~Ae"
  | 'L' => chunkF (fun c => pure (clo c)) "PyProof.noPylong_of_log2 ~d"
  | c => pure (clo c)
def stepsE (rs : String) : MacroM (Array (TSyntax `tactic)) := stepsF cloE (rs.splitOn "; ")
def chunkE (rs : String) : MacroM (TSyntax `tactic) := chunkF cloE rs
def enterE (rs : String) : MacroM (TSyntax `tactic) := do
  let r ← chunkE rs
  let h := nmE "hG1"
  `(tactic| ($r:tactic; (try replace $h:ident := Eq.trans $h (by assumption))))
end
end
section
section
variable {sc : Scope} {c : Cx} {m : Lc} {nw : Led} {t t' : Nat}
noncomputable def UnL (sc : Scope) (c : Cx) (target : Expr) (body : List Stmt) (e : Addr × Obj) (R : Flow → Lc → Led → Nat → Prop) : List Value → Lc → Led → Prop
  | [], m, nw => e ∈ nw ∧ ∀ t, R .next m nw t
  | v :: r, m, nw => e ∈ nw ∧ ∀ (c2 : Cx) (t : Nat), c2.dp = c.dp → c2.un = c.un → c2.G = c.G → c2.cl = c.cl → c2.fsc = c.fsc → Go sc c2 (assign target (c2.env sc) v) m nw t fun _ m2 nw2 t2 => Go sc c2 (execs body (c2.env sc)) m2 nw2 t2 (FoE (UnL sc c target body e R r) R)
theorem UnL.mem {target : Expr} {body : List Stmt} {e : Addr × Obj} {R : Flow → Lc → Led → Nat → Prop} : ∀ {vs : List Value}, UnL sc c target body e R vs m nw → e ∈ nw
  | [], h => h.1
  | _ :: _, h => h.1
theorem UnL.nil {target : Expr} {body : List Stmt} {e : Addr × Obj} {R : Flow → Lc → Led → Nat → Prop} (hm : e ∈ nw) (h : ∀ t, R .next m nw t) : UnL sc c target body e R [] m nw := ⟨hm, h⟩
theorem UnL.cons {target : Expr} {body : List Stmt} {e : Addr × Obj} {R : Flow → Lc → Led → Nat → Prop} {v : Value} {r : List Value} (hm : e ∈ nw)
    (h : ∀ (c2 : Cx) (t : Nat), c2.dp = c.dp → c2.un = c.un → c2.G = c.G → c2.cl = c.cl → c2.fsc = c.fsc → Go sc c2 (assign target (c2.env sc) v) m nw t fun _ m2 nw2 t2 => Go sc c2 (execs body (c2.env sc)) m2 nw2 t2 (FoE (UnL sc c target body e R r) R)) : UnL sc c target body e R (v :: r) m nw := ⟨hm, h⟩
theorem FoG.unL {target : Expr} {body : List Stmt} {R : Flow → Lc → Led → Nat → Prop} {l : Addr} {vs : List Value} {k : Nat} (_hm : (l, listOf vs.toArray k) ∈ nw) (hI : ItS target (.ref l) [(l, listOf vs.toArray k)] vs.length (fun i v => vs[i]? = some v)) (h : UnL sc c target body (l, listOf vs.toArray k) R vs m nw) : FoG sc c target body R (.ref l) m nw t := by
  refine FoG.mk hI (sub1 h.mem) (fun i m1 nw1 => UnL sc c target body (l, listOf vs.toArray k) R (vs.drop i) m1 nw1) h (fun i m1 nw1 q => sub1 q.mem) (fun c2 i u m1 nw1 t1 d u2 G cl f hi hu hj => ?_) fun m1 nw1 t1 q => ?_
  · rw [List.drop_eq_getElem_cons hi] at hj
    obtain rfl : vs[i] = u := Option.some.inj ((List.getElem?_eq_getElem hi).symm.trans hu)
    exact hj.2 c2 t1 d u2 G cl f
  · rw [List.drop_length] at q
    exact q.2 _
noncomputable def UnR (sc : Scope) (c : Cx) (target : Expr) (body : List Stmt) (e : Addr × Obj) (R : Flow → Lc → Led → Nat → Prop) : List Int → Lc → Led → Prop
  | [], m, nw => e ∈ nw ∧ ∀ t, R .next m nw t
  | v :: r, m, nw => e ∈ nw ∧ ∀ (c2 : Cx) (t u : Nat), c2.dp = c.dp → c2.un = c.un → c2.G = c.G → c2.cl = c.cl → c2.fsc = c.fsc → Go sc c2 (assign target (c2.env sc) (.int v u)) m nw t fun _ m2 nw2 t2 => Go sc c2 (execs body (c2.env sc)) m2 nw2 t2 (FoE (UnR sc c target body e R r) R)
theorem UnR.mem {target : Expr} {body : List Stmt} {e : Addr × Obj} {R : Flow → Lc → Led → Nat → Prop} : ∀ {vs : List Int}, UnR sc c target body e R vs m nw → e ∈ nw
  | [], h => h.1
  | _ :: _, h => h.1
theorem UnR.nil {target : Expr} {body : List Stmt} {e : Addr × Obj} {R : Flow → Lc → Led → Nat → Prop} (hm : e ∈ nw) (h : ∀ t, R .next m nw t) : UnR sc c target body e R [] m nw := ⟨hm, h⟩
theorem UnR.cons {target : Expr} {body : List Stmt} {e : Addr × Obj} {R : Flow → Lc → Led → Nat → Prop} {v : Int} {r : List Int} (hm : e ∈ nw)
    (h : ∀ (c2 : Cx) (t u : Nat), c2.dp = c.dp → c2.un = c.un → c2.G = c.G → c2.cl = c.cl → c2.fsc = c.fsc → Go sc c2 (assign target (c2.env sc) (.int v u)) m nw t fun _ m2 nw2 t2 => Go sc c2 (execs body (c2.env sc)) m2 nw2 t2 (FoE (UnR sc c target body e R r) R)) : UnR sc c target body e R (v :: r) m nw := ⟨hm, h⟩
theorem FoG.unR {x : Str} {px : Pos} {body : List Stmt} {R : Flow → Lc → Led → Nat → Prop} {r : Addr} {n : Nat} {t9 u9 v9 : Tok} {is : List Int} (_hm : (r, rangeO 0 (n : Int) 1 t9 u9 v9) ∈ nw) (hn : n < 1000) (e : is = (List.range n).map fun (i : Nat) => (i : Int)) (h : UnR sc c (.Name x px) body (r, rangeO 0 (n : Int) 1 t9 u9 v9) R is m nw) : FoG sc c (.Name x px) body R (.ref r) m nw t := by
  subst e
  refine FoG.mk (ItS.rangeN (a := 0) (n := n) (Int.zero_add _).symm (by decide) (by omega)) (sub1 h.mem) (fun i m1 nw1 => UnR sc c (.Name x px) body (r, rangeO 0 (n : Int) 1 t9 u9 v9) R (((List.range n).map fun (i : Nat) => (i : Int)).drop i) m1 nw1) h (fun i m1 nw1 q => sub1 q.mem) (fun c2 i u m1 nw1 t1 d u2 G cl f hi hu hj => ?_) fun m1 nw1 t1 q => ?_
  · obtain ⟨tk, rfl⟩ := hu
    rw [List.drop_eq_getElem_cons (by simpa using hi)] at hj
    have q := hj.2 c2 t1 tk d u2 G cl f
    rw [List.getElem_map, List.getElem_range] at q
    rw [Int.zero_add]
    exact q
  · rw [List.drop_eq_nil_of_le (by simp)] at q
    exact q.2 _
end
end
set_option compiler.extract_closed false
local macro_rules | `(tactic| kpr_short) => do firstE (#[← `(tactic| omega)] ++ #[← `(tactic| (simp only [List.length_drop, List.length_take, List.length_append, List.length_cons, List.length_nil]; omega))])
local macro_rules | `(tactic| kpr_short) => chunkE "nat_nn; nat_le n; nat_lt ad; nat_lte aad; z_nn; z_lt aad; z_lte aaad; =D"
local macro_rules | `(tactic| kpr_short) => chunkE "Nat.le_of_ble_eq_true ~e; le_up ae; le_eq aae; le_up1 ae; nlt_up ae; le_up2 ae; take_le n; drop_le n"
local macro_rules | `(tactic| tb_start) => do firstE (#[← `(tactic| ((with_reducible change @Eq _ _ _); exact rfl))] ++ #[← `(tactic| ((first | (with_reducible change @LE.le _ _ _ _) | (with_reducible change @LT.lt _ _ _ _)); kpr_short))])
local macro_rules | `(tactic| tb_start) => do firstE ((← stepsE "Ins.to as; ins_mk sss; ItemAt.lst ssss; ItemAt.tup ssses; abv_lt as; flds_nil ~; cl_look ae") ++ #[← `(tactic| ((with_reducible change ¬ @Eq Nat _ _); $(← firstE (← stepsE "Nat.ne_of_gt ~a; Nat.ne_of_lt ~a; ne_add ~e; abv_ne ~as; abv_ne' ~as")):tactic))])
local macro_rules | `(tactic| tb_start) => chunkE "KeepA.tK as; TupS.tS as; TupS.tK as; TupS.tD as; Abv.tr as; SubC.rf; SubC.tS as; SubC.tC aas"
local macro_rules | `(tactic| tb_start) => chunkE "Sub.keepT ass; KeepT.tS as; KeepT.tK aes; KeepT.tT as; KeepA.rf; TupS.rf; KeepT.rf; KeepA.tS as"
local macro_rules | `(tactic| tb_start) => chunkE "subC_mem aes; keepA_mem ass; keepT_or aWs; Sub.rf; Sub.tr as; Sub.keep' ass; Sub.keepA' ass; Sub.keepN asa"
local macro_rules | `(tactic| tb_start) => chunkE "=a; Up1.at a; Up1.skip aks; loc0 ae; look_at; look_skip ks; sub_mem as; keep_or aws"
local macro_rules | `(tactic| tb_rel) => chunkE "TS.andN; TS.or rr; TS.and rr; TS.orT r; TS.andF r; Tr.none; Tr.bool; Tr.str ss"
local macro_rules | `(tactic| tb_rel) => chunkE "BI.fdiv DL; BI.fmod s; TS.cmp krrr; TS.name ds; TS.attr r; TS.sub r; TS.not r; TS.orN"
local macro_rules | `(tactic| tb_rel) => chunkE "CP.eqIN; CP.isNN; CP.notNN; CP.isN s; CP.notN s; BI.add; BI.sub; BI.mul m"
local macro_rules | `(tactic| tb_rel) => chunkE "CP.gtI; CP.geI; CP.eqI; CP.neI; CP.eqS; CP.neS; CP.eqB; CP.neB"
local macro_rules | `(tactic| tb_rel) => chunkE "PV.andF r; PV.len kirss; PVs.nil; PVs.cons rr; PI.nil; PI.cons rekkr; CP.ltI; CP.leI"
local macro_rules | `(tactic| tb_rel) => chunkE "PV.attr rskss; PV.sub rrs; PV.cmp krrr; PV.bin rrr; PV.one r; PV.orB rr; PV.andB rr; PV.orT r"
local macro_rules | `(tactic| tb_rel) => chunkE "PV.int; PV.none; PV.str; PV.bool; PV.neg; PV.loc ds; PV.cell kssa; PV.glob ki"
local macro_rules | `(tactic| ktr_room) => chunkE "roomR ~ao"
local macro_rules | `(tactic| ktr_room) => chunkE "roomE ~aae; roomE0 ~aae; room0 ~ae; room1 ~ae; room2 ~ae; roomA ~a; roomQ ~ao; roomQ0 ~ao"
local macro_rules | `(tactic| k_sizes) => chunkE "BindsTo.of_eq ~e; binds_K ~aeieek"
local macro_rules | `(tactic| kct_strs) => chunkE "Go.take !assoo 5; Go.one !asssoo 4; Go.rng1 ! 9; Go.rng2 ! 9; Go.ctor !iiiiio2z1l1eeeeDs2r 12"
local macro_rules | `(tactic| kp_flats) => chunkE "CoE.noe !K; cpTe !K; cpFe !K; Go.condB !! 1; WhT.both !! 1; CoE.both !! 1; cpB !! 1; Go.condEB !! 1; =%"
local macro_rules | `(tactic| kp_flats) => chunkE "Go.eq0 !sso; Go.condTe !K; Go.condFe !K; Go.condETe !K; Go.condEFe !K; WhT.yese !K; WhT.noe !K; CoE.yese !K"
local macro_rules | `(tactic| kp_flats) => chunkE "Go.isin1 !sskt 1; Go.isinT !ssskt 1; Go.inS !sT; Go.notInS !sT; Go.eqBB !sso; Go.neBB !sso; Go.isnR !; Go.ne0 !sso"
local macro_rules | `(tactic| kp_flats) => chunkE "Go.binG !; LstR.mk !e 5; TupR.mk !e 5; As2R.mk !s 4; SetR.mk !sssssk 9; Go.lower !red; Go.intop !r; Go.co !r"
local macro_rules | `(tactic| kp_flats) => chunkE "Go.asNC !dssa 5; Go.listV !rs 5; Go.tupV !rs 5; Go.listE !; Go.tupE !; Go.args !r; Go.argsE !e; Go.ifexp !"
local macro_rules | `(tactic| kp_flats) => chunkE "Go.listC !ss 7; Go.addL !ssss 5; Go.mulL !sss 5; Go.forG !1e; FoG.nil !s 1; Go.comp !AeDDc1e; Go.storeC !dssa 5; Go.store !d 2"
local macro_rules | `(tactic| kp_flats) => chunkE "Go.slice2 !rs1u 5; Go.slice13 !rs1u 5; Go.sliceD !rrssss1u 5; Go.sliceT !rrssss1u 5; Go.max2 ! 2; Go.min2 ! 2; Go.intI !; Go.intB !; Go.boolB ! 1; Go.boolN ! 1"
local macro_rules | `(tactic| kp_flats) => chunkE "Go.notV !; Go.callV !kiir; Go.callE !kiiee; Go.callB !kibDer; Go.callBE !kibDeee; Go.pop0 !rsse 4; Go.meth !rssssiker; Go.methE !rssssikeee"
local macro_rules | `(tactic| kp_flats) => chunkE "Go.ev !r; Go.cmpVG !k; Go.one1 !; Go.orE !; Go.andE !; OrR.mk !r 1; AndR.mk !r 1; Go.notE !e"
local macro_rules | `(tactic| kp_flats) => chunkE "Go.test !r; Go.cmpG !k; Go.testO !; Go.testA !; Go.testO0 !; Go.testA0 !; Go.testN !; Go.testE !e"
local macro_rules | `(tactic| kp_flats) => chunkE "Go.retV !r; Go.retE !; Go.setV !rksssssk 9; Go.setE !ke; Go.exprE !ee; Go.app !rsee; AppR.mk !ss 3; Go.ifE !"
local macro_rules | `(tactic| kp_flats) => chunkE "Go.asg2 !eekk; Go.asgT2 !eee; AsT2.mk !s; Go.asN !d 2; Go.asP2 !se; Go.asP3 !se; Go.asAt !sd; Go.setAt !ssssk 9"
local macro_rules | `(tactic| kp_flats) => do firstE ((← stepsE "cpT !; cpF !; Go.nil !") ++ #[← `(tactic| (intro $(nmE "m9"):ident ($(nmE "u9") : Up1 _ _ _ _)))] ++ (← stepsE "Go.asgV !rd 2; Go.asgE !de; Go.compA !AeDDc1eek; Go.asgC !de"))
local macro_rules | `(tactic| kp_flats) => chunkE "DR.nx !; WhE.rt !; WhT.yes !; WhT.no !; CoE.yes !; CoE.no !; TestG.nil !; TestG.one !"
local macro_rules | `(tactic| kp_flats) => chunkE "BiG.mk !; BiH.mk !; CelR.mk !; FoE.br !; FoE.rt !; FoE.nx !; FoE.ct !; WhE.br !"
local macro_rules | `(tactic| kp_flats) => chunkE "Go.condET !; Go.condEF !; RetR.ret !; RetR.nx !; MakR.nx !; BoR.mk !; CmG.mk !; CmH.mk !"
local macro_rules | `(tactic| kp_flats) => chunkE "Seq.next !; Seq.ret !; Seq.brk !; Seq.cont !; Go.brk !; Go.cont !; Go.condT !; Go.condF !"
local macro_rules | `(tactic| kc_close) => enterE "Go.make !iiiiio3z1leeeD x',dx',nw',c1,m0,t0,hm0,hd1,hu1,hG1,hf1,h1',h2',s',l1',l2'"
local macro_rules | `(tactic| nest_room) => `(tactic| repeat' kp_flats)
local macro_rules | `(tactic| mem_news) => enterE "Go.enter !iio2zleeeD c1,m0,t0,hd1,hu1,hG1,hf1,hm0"
section
theorem ItS.strN {x : Str} {px : Pos} {tx : Str} {t9 : Tok} : ItS (.Name x px) (.str tx t9) [] tx.cps.size (SignAt tx) := ItS.str fun _ _ _ _ _ _ _ _ h => go_name h
section
variable {sc : Scope} {c : Cx} {m : Lc} {nw : Led} {t t' : Nat}
theorem Go.fold {x : Str} {u : Tok} {R : Value → Lc → Led → Nat → Prop} (hx : x.cps.size ≤ 64) (hdp : c.dp + 1 < recursionLimit) (hun : c.un + 100 < cLine) (h : ∀ u nw' t', Sub nw nw' → R (.str (foldS x) u) m nw' t') : Go sc c (call (.ref 585) [.str x u]) m nw t R := by
  mem_news
  nest_room
  with_reducible refine' Go.strE ?q1 gm_join ?q2 ?q3 ?q4 ?_
  case q1 => tb_rel
  case q2 | q3 | q4 => exact rfl
  nest_room
  refine CoG.mk ItS.strN (by kpr_short) (fun _ h => nomatch h) (fun i ys nw' => Sub nw nw' ∧ ∃ l : List (Str × Tok), ys = strValues l ∧ l.map (·.1) = (x.cps.toList.take i).map fun c => ⟨#[lowc c]⟩) ⟨Sub.rf, [], rfl, rfl⟩ (fun _ _ _ _ _ h => nomatch h) ?turn ?done
  case turn =>
    intro c2 i v ys mC nw2 t2 d2 u2 G2 l2 hi hv ⟨hs, l, hl, hys⟩
    obtain ⟨ch, tc, hc, rfl⟩ := hv
    subst hl
    nest_room
    refine Go.chain3 (by decide) (by tb_rel) (by tb_rel) CmpS.le (by tb_rel) CmpS.le (fun q1 => ?_) (fun q1 => ?_)
    all_goals nest_room
    · refine Go.ordB ?_
      have q1 : ¬ ch < 65 := fun q => by simp [ltA.mpr q] at q1
      rename (!decide _) = true => q2
      have q2 : ¬ 90 < ch := fun q => by simp [gtZ.mpr q] at q2
      nest_room
      refine Go.chrB (by omega) (by omega) ?_
      exact ⟨by tb_start, l ++ [(_, _)], val_snoc, low_snoc hc (by unfold lowc; rw [if_pos (by kpr_short)]; omega) hys⟩
    · rename (!decide _) = false => q2
      have q2 : 90 < ch := gtZ.mp (by simpa using q2)
      exact ⟨by tb_start, l ++ [(_, _)], val_snoc, low_snoc hc (by unfold lowc; rw [if_neg (by kpr_short)]) hys⟩
    · have q1 : ch < 65 := ltA.mp (by simpa using q1)
      exact ⟨by tb_start, l ++ [(_, _)], val_snoc, low_snoc hc (by unfold lowc; rw [if_neg (by kpr_short)]) hys⟩
  case done =>
    intro D k ys nw2 nw3 t2 ⟨hs, l, hl, hys⟩ hm hs3 hA hne
    subst hl
    rw [List.take_of_length_le (by simp)] at hys
    nest_room
    refine Go.join hm hys (joinOk_low (by simpa using hx)) fun u1 u2 => ?_
    nest_room
    exact h _ _ _ (by tb_start)
theorem Go.one {src l : Addr} {n : Nat} {vs : List Value} {lk : Nat} {R : Value → Lc → Led → Nat → Prop} (hG : c.G = SrcG src n) (hl : (l, listOf vs.toArray lk) ∈ nw) (hv1 : 1 ≤ vs.length) (hv2 : vs.length ≤ 64) (hdp : c.dp + 2 < recursionLimit) (hun : c.un + 100 < cLine) (h : ∀ (i : Nat) (v : Value) (t' : Nat), vs[i]? = some v → R v m nw t') :
    Go sc c (call (.ref 1150) [.ref src, .ref l]) m nw t R := by
  mem_news
  nest_room
  refine Go.subE (by tb_rel) (fun _ _ _ => by with_unfolding_all rfl) ?_
  nest_room
  rename_i dd uu tt q1 q2
  obtain ⟨v, hv⟩ : ∃ v, vs[dd.toNat]? = some v := ⟨_, List.getElem?_eq_getElem (by kpr_short)⟩
  exact SubR.mk (.inl ⟨vs, lk, hl, q1, by omega, hv⟩) (h _ _ _ hv)
theorem Go.bname {nd so : Addr} {nfs : Str → Option Value} {v1 v2 tb : Value} {num pl dep : Int} {cols : List (Str × Str × Str)} {tp td : Tok} {R : Value → Lc → Led → Nat → Prop}
    (hn : Ins nw nd 138 nfs) (h1 : nfs (Str.ofString "table") = some v1) (h2 : nfs (Str.ofString "column") = some v2) (hh1 : handedIn v1 = true) (hh2 : handedIn v2 = true)
    (hs : SrcIs nw so num cols tb) (hpl : -1 ≤ pl) (hpl2 : pl < cols.length) (hcl : cols.length ≤ 64) (hdp : c.dp + 2 < recursionLimit) (hun : c.un + 200 < cLine)
    (h : ∀ r nw' t', Sub nw nw' → NameIs nw' r num pl (collAt cols pl) → R (.ref r) m nw' t') : Go sc c (call (.ref 845) [.ref nd, .ref so, .int pl tp, .int dep td]) m nw t R := by
  obtain ⟨sfs, t1, l, vs, k, ⟨ds, ss, sn, sb, hi1, hi2, hi3⟩, hnum, hcol, htab, hl, hD⟩ := hs
  obtain ⟨dn, ns, nn, nb, hn1, hn2, hn3⟩ := hn
  mem_news
  nest_room
  · have hc : collAt cols pl = Str.ofString "binary" := by unfold collAt; rw [if_pos (of_decide_eq_true (by assumption))]; rfl
    rw [hc] at h
    exact h _ _ _ (by tb_start) ⟨_, _, _, _, ins_mk (by tb_start) (by tb_start) (by with_reducible assumption), by tb_start, by tb_start, by tb_start⟩
  · exact absurd (show decide (pl < 0) = true by assumption) (by rw [show decide (pl < 0) = false by assumption]; exact Bool.noConfusion)
  · rename (decide (pl < 0) = false) => q
    have h0 : 0 ≤ pl := by have := of_decide_eq_false q; omega
    obtain ⟨x, hx⟩ : ∃ x, cols[pl.toNat]? = some x := ⟨_, List.getElem?_eq_getElem (by kpr_short)⟩
    obtain ⟨v, hv⟩ : ∃ v, vs[pl.toNat]? = some v := ⟨_, List.getElem?_eq_getElem (by have := DatAll.length hD; rw [List.length_map] at this; omega)⟩
    obtain ⟨d, hd, hDd⟩ := datAll_at hD hv
    rw [List.getElem?_map, hx] at hd
    obtain rfl := Option.some.inj hd
    obtain ⟨a, n, t1, t2, t3, rfl, hm⟩ := colS_inv hDd
    nest_room
    · exact absurd (show decide (pl < 0) = true by assumption) (by rw [q]; exact Bool.noConfusion)
    · have hc : collAt cols pl = x.2.2 := by unfold collAt; rw [if_neg (by kpr_short), hx]
      rw [hc] at h
      exact h _ _ _ (by tb_start) ⟨_, _, _, _, ins_mk (by tb_start) (by tb_start) (by with_reducible assumption), by tb_start, by tb_start, by tb_start⟩
end
end
section
section
variable {sc : Scope} {c : Cx} {m : Lc} {nw : Led} {t t' : Nat}
theorem Go.kids {x dx : Addr} {es : List DictEntry} {n : Nat} {R : Value → Lc → Led → Nat → Prop} (h1 : (x, instObj 138 dx) ∈ nw) (h2 : (dx, dictOf es n) ∈ nw) (hdp : c.dp + 1 < recursionLimit) (hun : c.un + 100 < cLine)
    (h : ∀ r nw' t', (r, listOf ([] : List Value).toArray 0) ∈ nw' → Sub nw nw' → Abv nw r → R (.ref r) m nw' t') : Go sc c (call (.ref 592) [.ref x]) m nw t R := by
  mem_news
  nest_room
  exact h _ _ _ (by tb_start) (by tb_start) (by tb_start)
theorem Go.colN {x : Addr} {num pl : Int} {w : Str} {R : Value → Lc → Led → Nat → Prop} (hx : NameIs nw x num pl w) (hc : w.cps.size ≠ 0) (hc2 : w.cps.size ≤ 64) (hdp : c.dp + 4 < recursionLimit) (hun : c.un + 300 < cLine)
    (h : ∀ u nw' t', Sub nw nw' → R (.str w u) m nw' t') : Go sc c (call (.ref 645) [.ref x]) m nw t R := by
  obtain ⟨f, t1, t2, t3, ⟨dx, es, n, b, hx1, hx2, hx3⟩, hf1, hf2, hf3⟩ := hx
  ((with_reducible refine' Go.enterW (ws := [.ref x, .none]) ?a0 ?a1 ?a2 ?a3 ?a4 ?a5 ?a6 ?a7 ?a8 ?_); (case a0 | a1 => k_is); (case a2 => ktr_room); (case a3 => intro s9 X9; k_sizes); (case a4 => exact locs rfl); (case a5 | a6 | a7 => exact rfl); (case a8 => decide); intro c1 m0 t0 hd1 hu1 hG1 hf1 hm0; (try replace hG1 := hG1.trans (by assumption))); (try replace hG1 := hG1.trans (by assumption))
  nest_room
  mem_news
  repeat' (first | kp_flats | ((with_reducible change Go _ _ (call (.ref 592) _) _ _ _ _); (refine Go.kids (by tb_start) (by tb_start) (by ktr_room) (by ktr_room) ?_); intro r' nw' t' h' s' l'))
  mem_news
  nest_room
  exact h _ _ _ (by tb_start)
theorem Go.colC {x : Addr} {f : Str → Option Value} {w : Str} {u : Tok} {R : Value → Lc → Led → Nat → Prop} (hx : Ins nw x 448 f) (hf : f (Str.ofString "collation") = some (.str w u)) (hc0 : w.cps.size ≤ 64) (hc : (foldS w).cps.size ≠ 0) (hc2 : (foldS w).cps.size ≤ 64) (hdp : c.dp + 4 < recursionLimit) (hun : c.un + 300 < cLine)
    (h : ∀ u nw' t', Sub nw nw' → R (.str (foldS w) u) m nw' t') : Go sc c (call (.ref 645) [.ref x]) m nw t R := by
  obtain ⟨dx, es, n, b, hx1, hx2, hx3⟩ := hx
  ((with_reducible refine' Go.enterW (ws := [.ref x, .none]) ?a0 ?a1 ?a2 ?a3 ?a4 ?a5 ?a6 ?a7 ?a8 ?_); (case a0 | a1 => k_is); (case a2 => ktr_room); (case a3 => intro s9 X9; k_sizes); (case a4 => exact locs rfl); (case a5 | a6 | a7 => exact rfl); (case a8 => decide); intro c1 m0 t0 hd1 hu1 hG1 hf1 hm0; (try replace hG1 := hG1.trans (by assumption))); (try replace hG1 := hG1.trans (by assumption))
  nest_room
  mem_news
  repeat' (first | kp_flats | ((with_reducible change Go _ _ (call (.ref 585) _) _ _ _ _); (refine Go.fold (by first | with_reducible assumption | decide +kernel) (by ktr_room) (by ktr_room) ?_); intro u' nw' t' s'))
  exact h _ _ _ (by tb_start)
end
end
section
section
variable {sc : Scope} {c : Cx} {m : Lc} {nw : Led} {t t' : Nat}
theorem Go.source {v1 v2 v3 v4 v5 v6 v7 : Value} {R : Value → Lc → Led → Nat → Prop} (hdp : c.dp + 2 < recursionLimit)
    (h : ∀ x fs nw' t', Sub nw nw' → Ins nw' x 834 fs → fs (Str.ofString "number") = some v1 → fs (Str.ofString "alias") = some v2 → fs (Str.ofString "table") = some v3 → fs (Str.ofString "columns") = some v4 → fs (Str.ofString "select") = some v5 → fs (Str.ofString "kind") = some v6 → fs (Str.ofString "hint") = some v7 → R (.ref x) m nw' t') :
    Go sc c (call (.ref 834) [v1, v2, v3, v4, v5, v6, v7]) m nw t R := by
  kc_close
  nest_room
  refine h _ _ _ _ (by tb_start) (ins_mk (by tb_start) (by tb_start) (by assumption)) ?_ ?_ ?_ ?_ ?_ ?_ ?_
  all_goals tb_start
end
end
section
theorem flds_le {es : List DictEntry} {f : Str → Option Value} {b b' : Nat} (h : Flds es f b) (hb : b ≤ b') : Flds es f b' := ⟨h.1, Nat.le_trans h.2 hb⟩
section
variable {sc : Scope} {c : Cx} {m : Lc} {nw : Led} {t t' : Nat}
theorem Go.path {kd : Str} {tk : Tok} {vs : List Value} {iv : Value} {R : Value → Lc → Led → Nat → Prop} (ha : (vs = [.str kd tk] ∧ iv = .none) ∨ (vs = [.str kd tk, iv] ∧ handedIn iv = true)) (hdp : c.dp + 2 < recursionLimit)
    (h : ∀ x dx eq ea es n f nw' t', (x, instObj 764 dx) ∈ nw' → (dx, dictOf es n) ∈ nw' → Flds es f 16 → PathF f kd iv eq ea .none false → (eq, listOf ([] : List Value).toArray 0) ∈ nw' → (ea, listOf ([] : List Value).toArray 0) ∈ nw' → Sub nw nw' → Abv nw dx → @LT.lt Nat _ dx x → @LT.lt Nat _ x eq → @LT.lt Nat _ eq ea → R (.ref x) m nw' t') :
    Go sc c (call (.ref 764) vs) m nw t R := by
  refine' Go.makeW (ws := [.str kd tk, iv]) ?m ?i ?f ?o ?cd ?hd ?bd ?lc ?c1 ?c2 ?c3 ?c4 ?_
  (case m => k_is); (case i => k_is); (case f => k_is); (case o => k_is); (case cd => k_is); (case hd => ktr_room)
  (case bd => (intro x9 s9 X9; rcases ha with ⟨rfl, rfl⟩ | ⟨rfl, _⟩ <;> (refine' binds_K X9 ?b1 ?b2 ?b3 ?b4 ?b5; (case b1 => exact rfl); (case b2 => k_is); (case b3 => exact rfl); (case b4 => exact rfl); (case b5 => kernel_rfl))))
  (case lc => (intro x9; exact locs rfl)); (case c1 => exact rfl); (case c2 => exact rfl); (case c3 => exact rfl); (case c4 => decide)
  intro x' dx' nw' c1 m0 t0 hm0 hd1 hu1 hG1 hf1 h1' h2' s' l1' l2'
  nest_room
  refine' h _ _ _ _ _ _ _ _ _ ?m1 ?m2 ?fl ⟨⟨_, ?f1⟩, ?f2, ?f3, ?f4, ?f5, ?f6, ?f7, ?f8, ?f9⟩ ?e1 ?e2 ?sb ?ab ?l1 ?l2 ?l3
  (case fl => (refine' flds_le ?q ?le; (case q => with_reducible assumption); (case le => decide)))
  (case f1 => tb_start); (case f2 => tb_start); (case f3 => tb_start); (case f4 => tb_start); (case f5 => tb_start); (case f6 => tb_start); (case f7 => tb_start); (case f8 => tb_start); (case f9 => tb_start)
  (case m1 => tb_start); (case m2 => tb_start)
  (case e1 => tb_start); (case e2 => tb_start); (case sb => tb_start); (case ab => tb_start); (case l1 => tb_start)
  (case l2 => tb_start); (case l3 => tb_start)
end
end
section
section
variable {sc : Scope} {c : Cx} {m : Lc} {nw : Led} {t t' : Nat}
theorem Go.lrid {pl : Int} {tp : Tok} {hky : Bool} {R : Value → Lc → Led → Nat → Prop} (hdp : c.dp + 1 < recursionLimit) (h : ∀ t', R (.bool (pl == -1 || (hky && pl == 1))) m nw t') : Go sc c (call (.ref 1183) [.int pl tp, .bool hky]) m nw t R := by
  mem_news
  nest_room
  exact h _
theorem rq {R : Value → Lc → Led → Nat → Prop} {a b : Bool} (h : R (.bool a) m nw t) (e : a = b) : R (.bool b) m nw t := e ▸ h
theorem Go.rid {pl : Int} {tp : Tok} {tb : Addr} {hky : Bool} {n0 : Led} {R : Value → Lc → Led → Nat → Prop} (ht : TabIs n0 tb hky) (hs : Sub n0 nw) (hdp : c.dp + 1 < recursionLimit) (h : ∀ t', R (.bool (isRow pl hky)) m nw t') : Go sc c (call (.ref 673) [.int pl tp, .ref tb]) m nw t R := by
  obtain ⟨fs, u, hI, hf⟩ := ht
  cases hky
  · simp only [Bool.false_eq_true, if_false] at hf
    mem_news
    nest_room
    refine rq (h _) ?_
    simp [isRow]
  · simp only [if_true] at hf
    mem_news
    nest_room
    refine rq (h _) ?_
    simp [isRow]
end
end
section
section
variable {sc : Scope} {c : Cx} {m : Lc} {nw : Led} {t t' : Nat}
theorem Go.oname0 {x : Addr} {R : Value → Lc → Led → Nat → Prop} (hx : ExprIs nw x none) (hdp : c.dp + 1 < recursionLimit) (hun : c.un + 100 < cLine) (h : ∀ t', R .none m nw t') : Go sc c (call (.ref 692) [.ref x]) m nw t R := by
  obtain ⟨f, ⟨dx, es, n, b, hx1, hx2, hx3⟩ | ⟨dx, es, n, b, hx1, hx2, hx3⟩⟩ := hx
  all_goals (
    mem_news
    refine Go.while_ (fun _ m' nw' => m' (Str.ofString "expr") = some (.ref x) ∧ nw' = nw) 0 ⟨by tb_start, rfl⟩ ?_
    rintro n1 m1 nw1 t1 ⟨hm1, rfl⟩
    nest_room
    exact h _)
theorem Go.oname1 {x : Addr} {num pl : Int} {w : Str} {R : Value → Lc → Led → Nat → Prop} (hx : ExprIs nw x (some (num, pl, w))) (hdp : c.dp + 1 < recursionLimit) (hun : c.un + 100 < cLine) (h : ∀ y c0 t', NameIs nw y num pl c0 → R (.ref y) m nw t') : Go sc c (call (.ref 692) [.ref x]) m nw t R := by
  obtain ⟨hs1, hs2, hN | ⟨f, y, w, u, c0, ⟨dx, es, n, b, hx1, hx2, hx3⟩, hf1, hf2, hN, rfl, hw⟩⟩ := hx
  · have hN9 := hN
    obtain ⟨g, t1, t2, t3, ⟨ex, gs, k, d, hy1, hy2, hy3⟩, hg1, hg2, hg3⟩ := hN
    mem_news
    refine Go.while_ (fun _ m' nw' => m' (Str.ofString "expr") = some (.ref x) ∧ nw' = nw) 0 ⟨by tb_start, rfl⟩ ?_
    rintro n1 m1 nw1 t1 ⟨hm1, rfl⟩
    nest_room
    exact h _ _ _ hN9
  · have hN9 := hN
    obtain ⟨g, t1, t2, t3, ⟨ex, gs, k, d, hy1, hy2, hy3⟩, hg1, hg2, hg3⟩ := hN
    mem_news
    refine Go.while_ (fun k m' nw' => ((k = 1 ∧ m' (Str.ofString "expr") = some (.ref x)) ∨ (k = 0 ∧ m' (Str.ofString "expr") = some (.ref y))) ∧ nw' = nw) 1 ⟨.inl ⟨rfl, by tb_start⟩, rfl⟩ ?_
    rintro n1 m1 nw1 t1 ⟨⟨rfl, hm1⟩ | ⟨rfl, hm1⟩, rfl⟩
    · nest_room
      exact WhE.nx Nat.zero_lt_one ⟨.inr ⟨rfl, by tb_start⟩, rfl⟩
    · nest_room
      exact h _ _ _ hN9
end
section
variable {sc : Scope} {c : Cx} {m : Lc} {nw : Led} {t t' : Nat}
theorem Go.colE {x : Addr} {num pl : Int} {w : Str} {R : Value → Lc → Led → Nat → Prop} (hx : ExprIs nw x (some (num, pl, w))) (hdp : c.dp + 4 < recursionLimit) (hun : c.un + 300 < cLine) (h : ∀ u nw' t', Sub nw nw' → R (.str w u) m nw' t') : Go sc c (call (.ref 645) [.ref x]) m nw t R := by
  obtain ⟨hs1, hs2, hN | ⟨f, y, w, u, c0, hI, hf1, hf2, hN, rfl, hw⟩⟩ := hx
  · exact Go.colN hN hs1 hs2 hdp hun h
  · exact Go.colC hI hf1 hw hs1 hs2 hdp hun h
theorem Go.same {cl' nl tb : Addr} {cn' : Nat} {k : Col} {tp tc tcc tnp : Tok} {hky : Bool} {np : Int} {nfs : Str → Option Value} {cc : Str} {n0 : Led} {R : Value → Lc → Led → Nat → Prop} (ht : TabIs n0 tb hky) (hs : Sub n0 nw) (hc : (cl', tupO [.int k.p tp, .str k.c tc, .bool k.d] cn') ∈ nw) (hn : Ins nw nl 138 nfs) (hnp : nfs (Str.ofString "place") = some (.int np tnp))
    (hdp : c.dp + 2 < recursionLimit) (hun : c.un + 200 < cLine) (h : ∀ t', R (.bool (if isRow k.p hky then isRow np hky else k.p == np && k.c == cc)) m nw t') : Go sc c (call (.ref 725) [.ref cl', .ref nl, .str cc tcc, .ref tb]) m nw t R := by
  mem_news
  repeat' (first | kp_flats | ((with_reducible change Go _ _ (call (.ref 673) _) _ _ _ _); (refine Go.rid (by with_reducible assumption) (by tb_start) (by ktr_room) ?_); intro t'))
  · rename (isRow _ _ = true) => q
    refine rq (h _) ?_
    rw [if_pos q]
  · rename (isRow _ _ = false) => q
    refine rq (h _) ?_
    rw [if_neg (by rw [q]; exact Bool.false_ne_true)]
theorem rowid_in {nw : Led} {a : Addr} {n : Nat} {tp tc : Tok} (hm : (a, tupO [.int (-1) tp, .str (Str.ofString "binary") tc, .bool false] n) ∈ nw) : DatIn nw (.ref a) (colD rowidCol) := col_mk (x := rowidCol) hm
theorem Go.ord {x : Addr} {tv : Value} {d : PathD} {hasT : Bool} {R : Value → Lc → Led → Nat → Prop} (hx : PathIs nw x d) (ht : if hasT = true then ∃ tb, tv = .ref tb else tv = .none) (hc : d.cols.length ≤ 8) (he : d.eqn ≤ d.cols.length) (hdp : c.dp + 2 < recursionLimit) (hun : c.un + 200 < cLine)
    (h : ∀ r vs k nw' t', Sub nw nw' → (r, listOf vs.toArray k) ∈ nw' → Abv nw r → DatAll nw' vs ((ordOf d hasT).map colD) → R (.ref r) m nw' t') : Go sc c (call (.ref 680) [.ref x, tv]) m nw t R := by
  obtain ⟨f, u, li, eq, evs, ek, ix, fi, cl9, cvs, ck, ⟨dx, es, n, b, hx1, hx2, hx3⟩, h2, h3, h4, h5, h6, h7, h8⟩ := hx
  obtain ⟨kd, cols, eqn, hl, sg⟩ := d
  dsimp only at *
  cases hl
  case true =>
    simp only [if_true] at h3
    mem_news
    nest_room
    exact h _ _ _ _ _ (by tb_start) (by tb_start) (by tb_start) .nil
  case false =>
    simp only [Bool.false_eq_true, if_false] at h3
    cases hasT
    case false =>
      simp only [Bool.false_eq_true, if_false] at ht
      subst ht
      mem_news
      nest_room
      exact h _ _ _ _ _ (by tb_start) (by tb_start) (by tb_start) .nil
    case true =>
      simp only [if_true] at ht
      obtain ⟨tb, rfl⟩ := ht
      cases kd
      case index =>
        obtain ⟨g1, ⟨ex, gs, kk, bb, i1, i2, i3⟩, g3, g4, g5⟩ := h8 rfl
        have hcl := DatAll.length g5
        rw [List.length_map] at hcl
        simp only [PK.word] at h2
        mem_news
        nest_room
        refine h _ _ _ _ _ (by tb_start) (by tb_start) (by tb_start) ?_
        have e9 : (ordOf ⟨.index, cols, eqn, false, sg⟩ true).map colD = (cols.map colD).drop ((evs.length : Int)).toNat ++ [colD rowidCol] := by
          have h7' : evs.length = eqn := h7
          rw [h7', Int.toNat_natCast]
          simp [ordOf, List.map_drop]
        rw [e9]
        exact datAll_snoc (datAll_drop _ (DatAll.mono (show Sub _ _ by tb_start) g5)) (rowid_in (by tb_start))
      all_goals (
        simp only [PK.word] at h2
        mem_news
        nest_room
        first
        | exact h _ [_] _ _ _ (by tb_start) (by tb_start) (by tb_start) (show DatAll _ [_] [colD rowidCol] from .cons (rowid_in (by tb_start)) .nil)
        | exact h _ [] _ _ _ (by tb_start) (by tb_start) (by tb_start) (show DatAll _ [] [] from .nil))
end
end
section
theorem colsAt {nw : Led} {cols : List Col} {cvs : List Value} {i : Nat} {v : Value} (h : DatAll nw cvs (cols.map colD)) (hv : cvs[i]? = some v) : ∃ x a n tp tc, cols[i]? = some x ∧ v = .ref a ∧ (a, tupO [.int x.p tp, .str x.c tc, .bool x.d] n) ∈ nw := by
  obtain ⟨d, hd, hD⟩ := datAll_at h hv
  rw [List.getElem?_map] at hd
  cases hx : cols[i]? with
  | none => rw [hx] at hd; cases hd
  | some x =>
    rw [hx] at hd
    obtain rfl := Option.some.inj hd
    obtain ⟨a, n, tp, tc, rfl, hm⟩ := col_inv hD
    exact ⟨x, a, n, tp, tc, rfl, rfl, hm⟩
theorem take_snoc {α β : Type} {l : List α} {i : Nat} {x : α} {f : α → β} (h : l[i]? = some x) : (l.take (i + 1)).map f = (l.take i).map f ++ [f x] := by
  rw [take_at h]; simp
section
variable {sc : Scope} {c : Cx} {m : Lc} {nw : Led} {t t' : Nat}
theorem Go.fix {x : Addr} {d : PathD} {R : Value → Lc → Led → Nat → Prop} (hx : PathIs nw x d) (hc : d.cols.length ≤ 8) (he : d.eqn ≤ d.cols.length) (hdp : c.dp + 2 < recursionLimit) (hun : c.un + 200 < cLine)
    (h : ∀ r vs k nw' t', Sub nw nw' → (r, listOf vs.toArray k) ∈ nw' → Abv nw r → DatAll nw' vs ((fixOf d).map fixD) → R (.ref r) m nw' t') : Go sc c (call (.ref 685) [.ref x]) m nw t R := by
  obtain ⟨f, u, li, eq, evs, ek, ix, fi, cl9, cvs, ck, ⟨dx, es, n, b, hx1, hx2, hx3⟩, h2, h3, h4, h5, h6, h7, h8⟩ := hx
  obtain ⟨kd, cols, eqn, hl, sg⟩ := d
  dsimp only at *
  cases kd
  case index =>
    obtain ⟨g1, ⟨ex, gs, kk, bb, i1, i2, i3⟩, g3, g4, g5⟩ := h8 rfl
    have hcl := DatAll.length g5
    rw [List.length_map] at hcl
    have ev : ((evs.length : Int)).toNat = eqn := by rw [Int.toNat_natCast]; exact h7
    simp only [PK.word] at h2
    mem_news
    nest_room
    rename_i D1 nw1 hD1 hS1 hA1
    rw [ev] at hD1
    have hl1 : (cvs.take eqn).length = eqn := by rw [List.length_take]; omega
    refine CoG.mk (ItS.listT (vs := cvs.take eqn)) (by kpr_short) (sub1 hD1) (fun i ys nw' => Sub nw1 nw' ∧ DatAll nw' ys ((((cols.take eqn).take i).map fun x => (x.p, x.c)).map fixD)) ⟨Sub.rf, .nil⟩ (fun _ _ _ q => sub1 (q.1 _ hD1)) ?turn ?done
    case turn =>
      intro c2 i v ys mC nw2 t2 d2 u2 G2 l2 hi hv ⟨hs, hD⟩
      obtain ⟨x, a, n, tp, tc, hx, rfl, hm⟩ := colsAt (cols := cols.take eqn) (by rw [List.map_take]; exact datAll_take _ g5) hv
      nest_room
      refine ⟨by tb_start, ?_⟩
      rw [take_snoc hx, List.map_append]
      exact datAll_snoc (DatAll.mono (show Sub _ _ by tb_start) hD) (fix_mk (x := (x.p, x.c)) (by tb_start))
    case done =>
      intro D k ys nw2 nw3 t2 ⟨hs, hD⟩ hm hs3 hA hne
      nest_room
      refine h _ _ _ _ _ (by tb_start) hm (by tb_start) (DatAll.mono hs3 ?_)
      have e : ((cols.take eqn).take (cvs.take eqn).length) = cols.take eqn := by rw [hl1, List.take_take, Nat.min_self]
      rw [e] at hD
      exact hD
  all_goals (
    simp only [PK.word] at h2
    mem_news
    nest_room
    exact h _ [] _ _ _ (by tb_start) (by tb_start) (by tb_start) (show DatAll _ [] [] from .nil))
end
end
section
inductive LvG (num : Int) (hky : Bool) (d : PathD) (hasT : Bool) (ts : List Tm) (lvs : List Value) (lf wk so : Addr) (n0 nw : Led) : Nat → Lc → Led → Prop
  | mk {i : Nat} {ts' : List Tm} {lvs' : List Value} {lk' : Nat} {cols' : List Col} {cl1 fl1 : Addr} {cvs fvs : List Value} {ck fk : Nat} {b : Option Bool} {o : Bool} {nw' : Led} {m' : Lc}
    (hlv : lvs' = lvs.drop i) (hTs : All2 (LeftIs n0) lvs' ts') (hsub : ∀ t ∈ ts', t ∈ ts) (h0 : Sub n0 nw') (hk : KeepA lf nw nw') (hm : (lf, listOf lvs'.toArray lk') ∈ nw')
    (g1 : m' (Str.ofString "self") = some (.ref wk)) (g2 : m' (Str.ofString "source") = some (.ref so)) (g3 : m' (Str.ofString "columns") = some (.ref cl1)) (c2 : DatAll nw' cvs (cols'.map colD)) (c1 : (cl1, listOf cvs.toArray ck) ∈ nw') (cn : cl1 ≠ lf)
    (g4 : m' (Str.ofString "fixed") = some (.ref fl1)) (c4 : DatAll nw' fvs ((fixOf d).map fixD)) (c3 : (fl1, listOf fvs.toArray fk) ∈ nw') (fn : fl1 ≠ lf) (g5 : m' (Str.ofString "backwards") = some (bkV b)) (g6 : m' (Str.ofString "is_one") = some (.bool o))
    (k1 : hasT = false → cols' = []) (k2 : ∀ c ∈ cols', PyData.strOk c.c = true) (k3 : cols'.length ≤ 9)
    (hR : lvl num hky (fixOf d) ts (ordOf d hasT) none d.single = ((lvl num hky (fixOf d) ts' cols' b o).1 + i, (lvl num hky (fixOf d) ts' cols' b o).2)) : LvG num hky d hasT ts lvs lf wk so n0 nw ts'.length m' nw'
inductive LvE (num : Int) (hky : Bool) (d : PathD) (hasT : Bool) (ts : List Tm) (lvs : List Value) (lf : Addr) (n0 nw : Led) : Lc → Led → Prop
  | mk {i lk' : Nat} {b : Option Bool} {o : Bool} {lvs' : List Value} {nw' : Led} {m' : Lc} (hlv : lvs' = lvs.drop i) (h0 : Sub n0 nw') (hk : KeepA lf nw nw') (hm : (lf, listOf lvs'.toArray lk') ∈ nw') (hR : lvl num hky (fixOf d) ts (ordOf d hasT) none d.single = (i, b, o))
    (g5 : m' (Str.ofString "backwards") = some (bkV b)) (g6 : m' (Str.ofString "is_one") = some (.bool o)) : LvE num hky d hasT ts lvs lf n0 nw m' nw'
section
variable {sc : Scope} {c : Cx} {m : Lc} {nw : Led} {t t' : Nat}
set_option maxHeartbeats 1500000 in
theorem Go.lvl {wk so px lf : Addr} {lvs : List Value} {lk : Nat} {ts : List Tm} {f : Str → Option Value} {num : Int} {scols : List (Str × Str × Str)} {tbv : Value} {d : PathD} {hasT hky : Bool} {n0 : Led} {R : Value → Lc → Led → Nat → Prop}
    (hm : (lf, listOf lvs.toArray lk) ∈ nw) (h0 : Sub n0 nw) (ho : ∀ p ∈ n0, p.1 ≠ lf) (hw : Ins n0 wk 714 f) (hf : f (Str.ofString "left") = some (.ref lf)) (hT : All2 (LeftIs n0) lvs ts) (hz : lvs.length ≤ 16)
    (hs : SrcIs n0 so num scols tbv) (hp : PathIs n0 px d) (ht : if hasT = true then ∃ tb, tbv = .ref tb ∧ TabIs n0 tb hky else tbv = .none) (hc : d.cols.length ≤ 8) (he : d.eqn ≤ d.cols.length) (hok : ∀ x ∈ d.cols, PyData.strOk x.c = true) (hok2 : ∀ t ∈ ts, ∀ a b c, t.e = some (a, b, c) → PyData.strOk c = true)
    (hdp : c.dp + 10 < recursionLimit) (hun : c.un + 1000 < cLine)
    (h : ∀ r k n nw' t', KeepA lf nw nw' → Sub n0 nw' → (lf, listOf (lvs.drop (lvl num hky (fixOf d) ts (ordOf d hasT) none d.single).1).toArray k) ∈ nw' →
      (r, tupO [.bool ((lvl num hky (fixOf d) ts (ordOf d hasT) none d.single).2.1.getD false), .bool (lvl num hky (fixOf d) ts (ordOf d hasT) none d.single).2.2] n) ∈ nw' → R (.ref r) m nw' t') :
    Go sc c (call (.ref 711) [.ref wk, .ref so, .ref px]) m nw t R := by
  obtain ⟨dw, ws, wn, wb, hw1, hw2, hw3⟩ := hw
  have hs9 := hs
  obtain ⟨sfs, t1, l, vs, k, ⟨ds, ss, sn, sb, hi1, hi2, hi3⟩, hnum, hcol, htab, hl, hD⟩ := hs
  have hp9 := hp
  obtain ⟨pf, pt, pli, peq, pevs, pek, pix, pfi, pcl, pcvs, pck, ⟨dp9, ps, pn, pb, hq1, hq2, hq3⟩, p2, p3, p4, p5, p6, p7, p8⟩ := hp
  have htv : handedIn tbv = true := by
    cases hasT
    · simp at ht; rw [ht]; rfl
    · obtain ⟨tb, rfl, _⟩ := by simpa using ht
      rfl
  have ht2 : if hasT = true then ∃ tb, tbv = .ref tb else tbv = .none := by
    cases hasT
    · simpa using ht
    · obtain ⟨tb, rfl, _⟩ := by simpa using ht
      exact ⟨tb, rfl⟩
  have hok3 : ∀ x ∈ fixOf d, PyData.strOk x.2 = true := by
    intro x hx
    unfold fixOf at hx
    split at hx
    · obtain ⟨c, hc1, rfl⟩ := List.mem_map.mp hx
      exact hok c (List.mem_of_mem_take hc1)
    · cases hx
  mem_news
  repeat' (first | kp_flats | ((with_reducible change Go _ _ (call (.ref 680) _) _ _ _ _); (refine Go.ord (by exact PathIs.to (by with_reducible assumption) (by tb_start)) (by with_reducible assumption) (by with_reducible assumption) (by with_reducible assumption) (by ktr_room) (by ktr_room) ?_); intro r' vs' k' nw' t' s' h' l' d') | ((with_reducible change Go _ _ (call (.ref 685) _) _ _ _ _); (refine Go.fix (by exact PathIs.to (by with_reducible assumption) (by tb_start)) (by with_reducible assumption) (by with_reducible assumption) (by ktr_room) (by ktr_room) ?_); intro r' vs' k' nw' t' s' h' l' d'))
  refine Go.whileD (LvG num hky d hasT ts lvs lf wk so n0 nw) ts.length (LvE num hky d hasT ts lvs lf n0 nw) ?hj ?done ?turn
  case hj => exact LvG.mk (i := 0) (cols' := ordOf d hasT) (b := none) rfl hT (fun _ h => h) (by tb_start) (by tb_start) (show (lf, listOf lvs.toArray lk) ∈ _ from by tb_start) (by tb_start) (by tb_start) (by tb_start) (datAll_to (by assumption) (by tb_start)) (by tb_start) (by tb_start) (by tb_start) (datAll_to (by assumption) (by tb_start)) (by tb_start) (by tb_start) (show _ = some Value.none from by tb_start) (by tb_start) ord_no (ord_ok hok) (ord_len hc) rfl
  case done =>
    intro m3 nw4 t3 hD
    obtain ⟨hlv, h0', hk', hm', hR, g5, g6⟩ := hD
    rename_i i lk' b o lvs'
    subst hlv
    rw [hR] at h
    cases b with
    | none =>
      simp only [bkV] at g5
      nest_room
      exact h _ _ _ _ _ (by tb_start) (by tb_start) (by tb_start) (show (_, tupO [.bool false, .bool o] _) ∈ _ from by tb_start)
    | some b =>
      simp only [bkV] at g5
      nest_room
      exact h _ _ _ _ _ (by tb_start) (by tb_start) (by tb_start) (show (_, tupO [.bool b, .bool o] _) ∈ _ from by tb_start)
  case turn =>
    intro n m3 nw4 t3 hJ
    obtain ⟨hlv, hTs, hsub, h0', hk', hm', g1, g2, g3, c2', c1', cn, g4, c4', c3', fn, g5, g6, k1, k2, k3, hR⟩ := hJ
    rename_i i ts' lvs' lk' cols' cl1 fl1 cvs fvs ck fk b o
    rename DatAll nw4 cvs _ => c2
    rename DatAll nw4 fvs _ => c4
    cases ts' with
    | nil =>
      obtain rfl := hTs.nil
      nest_room
      exact LvE.mk hlv (by tb_start) (by tb_start) (by tb_start) (lvl_0 hR rfl) (by tb_start) (by tb_start)
    | cons t ts' =>
      obtain ⟨v, lr, rfl, ⟨a9, n9, rfl, ht1, ht3⟩, hT2⟩ := hTs.head
      obtain ⟨tx, te, tf⟩ := t
      dsimp only at ht1 ht3
      cases te with
      | none =>
        repeat' (first | kp_flats | ((with_reducible change Go _ _ (call (.ref 692) _) _ _ _ _); (refine Go.oname0 (by exact ExprIs.to (by with_reducible assumption) (by tb_start)) (by ktr_room) (by ktr_room) ?_); intro t') | ((with_reducible change Go _ _ (call (.ref 692) _) _ _ _ _); (refine Go.oname1 (by exact ExprIs.to (by with_reducible assumption) (by tb_start)) (by ktr_room) (by ktr_room) ?_); intro y' c' t' n') | ((with_reducible change Go _ _ (call (.ref 645) _) _ _ _ _); (refine Go.colE (by exact ExprIs.to (by with_reducible assumption) (by tb_start)) (by ktr_room) (by ktr_room) ?_); intro u' nw' t' s'))
        exact LvE.mk hlv (by tb_start) (by tb_start) (by tb_start) (lvl_0 hR rfl) (by tb_start) (by tb_start)
      | some e =>
        obtain ⟨nm, pl, cc⟩ := e
        have hlr : lr.length ≤ 1000 := by
          have e := congrArg List.length hlv
          rw [List.length_cons, List.length_drop] at e
          omega
        have hcc : PyData.strOk cc = true := hok2 _ (hsub _ (.head _)) _ _ _ rfl
        have hm1 : kqdOk 8 (fixD (pl, cc)) = true := fix_ok hcc
        have hl1 : ∀ d9 ∈ (fixOf d).map fixD, kqdOk 8 d9 = true := fixs_ok hok3
        repeat' (first | kp_flats | ((with_reducible change Go _ _ (call (.ref 692) _) _ _ _ _); (refine Go.oname0 (by exact ExprIs.to (by with_reducible assumption) (by tb_start)) (by ktr_room) (by ktr_room) ?_); intro t') | ((with_reducible change Go _ _ (call (.ref 692) _) _ _ _ _); (refine Go.oname1 (by exact ExprIs.to (by with_reducible assumption) (by tb_start)) (by ktr_room) (by ktr_room) ?_); intro y' c' t' n') | ((with_reducible change Go _ _ (call (.ref 645) _) _ _ _ _); (refine Go.colE (by exact ExprIs.to (by with_reducible assumption) (by tb_start)) (by ktr_room) (by ktr_room) ?_); intro u' nw' t' s'))
        rename (NameIs _ _ _ _ _) => hn9
        obtain ⟨nf, n1, n2, n3, ⟨dn, ns, nn, nb, o1, o2, o3⟩, v1, v2, v3⟩ := hn9
        repeat' (first | kp_flats | ((with_reducible change Go _ _ (call (.ref 692) _) _ _ _ _); (refine Go.oname0 (by exact ExprIs.to (by with_reducible assumption) (by tb_start)) (by ktr_room) (by ktr_room) ?_); intro t') | ((with_reducible change Go _ _ (call (.ref 692) _) _ _ _ _); (refine Go.oname1 (by exact ExprIs.to (by with_reducible assumption) (by tb_start)) (by ktr_room) (by ktr_room) ?_); intro y' c' t' n') | ((with_reducible change Go _ _ (call (.ref 645) _) _ _ _ _); (refine Go.colE (by exact ExprIs.to (by with_reducible assumption) (by tb_start)) (by ktr_room) (by ktr_room) ?_); intro u' nw' t' s'))
        · rename (nm != num) = true => q
          exact LvE.mk hlv (by tb_start) (by tb_start) (by tb_start) (lvl_0 hR (lvl_end1 (bne_iff_ne.mp q))) (by tb_start) (by tb_start)
        · rename (nm != num) = false => q
          obtain rfl : nm = num := by simpa using q
          rename (o = true) => ho1
          exact WhE.ct (Nat.lt_succ_self _) (LvG.mk (i := i + 1) (b := b) (drop_tl hlv) hT2 (fun t h => hsub t (.tail _ h)) (by tb_start) (by tb_start) (by tb_start) (by tb_start) (by tb_start) (by tb_start) (cols_repl (show TupS _ _ from by tb_start) c2) (by tb_start) cn (by tb_start) (fixs_repl (show TupS _ _ from by tb_start) c4) (by tb_start) fn (by tb_start) (by tb_start) k1 k2 k3 (lvl_s hR (lvl_go1 (.inl ho1))))
        · rename (nm != num) = false => q
          obtain rfl : nm = num := by simpa using q
          rename (o = false) => ho1
          refine Go.inD (by tb_start) (by assumption) (by tb_start) (fix_mk (x := (pl, cc)) (by tb_start)) Sub.rf hl1 hm1 (by ktr_room) ?_
          repeat' (first | kp_flats | ((with_reducible change Go _ _ (call (.ref 692) _) _ _ _ _); (refine Go.oname0 (by exact ExprIs.to (by with_reducible assumption) (by tb_start)) (by ktr_room) (by ktr_room) ?_); intro t') | ((with_reducible change Go _ _ (call (.ref 692) _) _ _ _ _); (refine Go.oname1 (by exact ExprIs.to (by with_reducible assumption) (by tb_start)) (by ktr_room) (by ktr_room) ?_); intro y' c' t' n') | ((with_reducible change Go _ _ (call (.ref 645) _) _ _ _ _); (refine Go.colE (by exact ExprIs.to (by with_reducible assumption) (by tb_start)) (by ktr_room) (by ktr_room) ?_); intro u' nw' t' s'))
          · rename (@decide _ _ = true) => hin
            have hin := mem_fix.mp (dec_t hin)
            exact WhE.ct (Nat.lt_succ_self _) (LvG.mk (i := i + 1) (b := b) (drop_tl hlv) hT2 (fun t h => hsub t (.tail _ h)) (by tb_start) (by tb_start) (by tb_start) (by tb_start) (by tb_start) (by tb_start) (cols_repl (show TupS _ _ from by tb_start) c2) (by tb_start) cn (by tb_start) (fixs_repl (show TupS _ _ from by tb_start) c4) (by tb_start) fn (by tb_start) (by tb_start) k1 k2 k3 (lvl_s hR (lvl_go1 (.inr hin))))
          · rename (@decide (fixD _ ∈ _) _ = false) => hin
            have hin := fun q => dec_f hin (mem_fix.mpr q)
            subst ho1
            have e9 := DatAll.length c2
            rw [List.length_map] at e9
            cases cols' with
            | cons c cs9 => rw [List.length_cons] at e9; rename (@decide (List.length _ = 0) _ = true) => e8; have e8 := of_decide_eq_true e8; omega
            | nil => exact LvE.mk hlv (by tb_start) (by tb_start) (by tb_start) (lvl_0 hR (lvl_end2 hin)) (by tb_start) (by tb_start)
          · rename (@decide (fixD _ ∈ _) _ = false) => hin
            have hin := fun q => dec_f hin (mem_fix.mpr q)
            subst ho1
            have e9 := DatAll.length c2
            rw [List.length_map] at e9
            cases cols' with
            | nil => rename (@decide (List.length _ = 0) _ = false) => e8; exact absurd e9 (of_decide_eq_false e8)
            | cons c cs9 =>
              obtain ⟨cv, cvs, rfl, cD, c5⟩ := dat_cons (show DatAll _ _ (colD c :: cs9.map colD) from c2)
              obtain ⟨ca9, cn9, ctp, ctc, rfl, cm9⟩ := col_inv cD
              cases hasT with
              | false => exact absurd (k1 rfl) (by simp)
              | true =>
                obtain ⟨tb, rfl, htb⟩ : ∃ tb, tbv = .ref tb ∧ TabIs n0 tb hky := by simpa using ht
                repeat' (first | kp_flats | ((with_reducible change Go _ _ (call (.ref 692) _) _ _ _ _); (refine Go.oname0 (by exact ExprIs.to (by with_reducible assumption) (by tb_start)) (by ktr_room) (by ktr_room) ?_); intro t') | ((with_reducible change Go _ _ (call (.ref 692) _) _ _ _ _); (refine Go.oname1 (by exact ExprIs.to (by with_reducible assumption) (by tb_start)) (by ktr_room) (by ktr_room) ?_); intro y' c' t' n') | ((with_reducible change Go _ _ (call (.ref 645) _) _ _ _ _); (refine Go.colE (by exact ExprIs.to (by with_reducible assumption) (by tb_start)) (by ktr_room) (by ktr_room) ?_); intro u' nw' t' s') | ((with_reducible change Go _ _ (call (.ref 725) _) _ _ _ _); (refine Go.same (by with_reducible assumption) (by tb_start) (by tb_start) (by tb_start) (by tb_start) (by ktr_room) (by ktr_room) ?_); intro t') | ((with_reducible change Go _ _ (call (.ref 673) _) _ _ _ _); (refine Go.rid (by with_reducible assumption) (by tb_start) (by ktr_room) ?_); intro t'))
                · rename ((!_) = true) => hsm
                  have hsm : sameB c pl cc hky = false := by simpa [sameB] using hsm
                  exact LvE.mk hlv (by tb_start) (by tb_start) (by tb_start) (lvl_0 hR (lvl_end3 hin hsm)) (by tb_start) (by tb_start)
                · rename ((!_) = false) => hsm
                  have hsm : sameB c pl cc hky = true := by simpa [sameB] using hsm
                  cases b with
                  | none =>
                    dsimp only [bkV] at g5 ⊢
                    repeat' (first | kp_flats | ((with_reducible change Go _ _ (call (.ref 725) _) _ _ _ _); (refine Go.same (by with_reducible assumption) (by tb_start) (by tb_start) (by tb_start) (by tb_start) (by ktr_room) (by ktr_room) ?_); intro t') | ((with_reducible change Go _ _ (call (.ref 673) _) _ _ _ _); (refine Go.rid (by with_reducible assumption) (by tb_start) (by ktr_room) ?_); intro t'))
                    exact WhE.nx (Nat.lt_succ_self _) (LvG.mk (i := i + 1) (b := some (tf != c.d)) (drop_tl hlv) hT2 (fun t h => hsub t (.tail _ h)) (by tb_start) (by tb_start) (by tb_start) (by tb_start) (by tb_start) (by tb_start) (cols_repl (show TupS _ _ from by tb_start) (show DatAll _ (List.drop (Int.toNat 1) (Value.ref ca9 :: cvs)) _ from c5)) (by tb_start) (by tb_start) (by tb_start) (fixs_repl (show TupS _ _ from by tb_start) c4) (by tb_start) fn (show _ = some (Value.bool _) from by tb_start) (by tb_start) (fun h => nomatch h) (fun c h => k2 c (.tail _ h)) (Nat.le_of_succ_le k3) (lvl_s hR (lvl_go2 hin hsm (.inl rfl))))
                  | some b =>
                    dsimp only [bkV] at g5 ⊢
                    repeat' (first | kp_flats | ((with_reducible change Go _ _ (call (.ref 725) _) _ _ _ _); (refine Go.same (by with_reducible assumption) (by tb_start) (by tb_start) (by tb_start) (by tb_start) (by ktr_room) (by ktr_room) ?_); intro t') | ((with_reducible change Go _ _ (call (.ref 673) _) _ _ _ _); (refine Go.rid (by with_reducible assumption) (by tb_start) (by ktr_room) ?_); intro t'))
                    · rename ((_ != _) = true) => hbb
                      exact LvE.mk hlv (by tb_start) (by tb_start) (by tb_start) (lvl_0 hR (lvl_end4 hin hsm (bne_iff_ne.mp hbb))) (show _ = some (Value.bool b) from by tb_start) (by tb_start)
                    · rename ((_ != _) = false) => hbb
                      have hbb : b = (tf != c.d) := by simpa using hbb
                      exact WhE.nx (Nat.lt_succ_self _) (LvG.mk (i := i + 1) (b := some (tf != c.d)) (drop_tl hlv) hT2 (fun t h => hsub t (.tail _ h)) (by tb_start) (by tb_start) (by tb_start) (by tb_start) (by tb_start) (by tb_start) (cols_repl (show TupS _ _ from by tb_start) (show DatAll _ (List.drop (Int.toNat 1) (Value.ref ca9 :: cvs)) _ from c5)) (by tb_start) (by tb_start) (by tb_start) (fixs_repl (show TupS _ _ from by tb_start) c4) (by tb_start) fn (show _ = some (Value.bool _) from by tb_start) (by tb_start) (fun h => nomatch h) (fun c h => k2 c (.tail _ h)) (Nat.le_of_succ_le k3) (lvl_s hR (lvl_go2 hin hsm (.inr (congrArg some hbb)))))
end
end
section
theorem nil_get {α : Type} {j : Nat} {y : α} (h : ([] : List α)[j]? = some y) : False := by simp at h
section
variable {sc : Scope} {c : Cx} {m : Lc} {nw : Led} {t t' : Nat}
theorem Go.owk {l : Addr} {vs : List Value} {lk : Nat} {ts : List Tm} {R : Value → Lc → Led → Nat → Prop} (hl : (l, listOf vs.toArray lk) ∈ nw) (hT : All2 (TermIs nw) vs ts) (hz : vs.length ≤ 16) (hdp : c.dp + 4 < recursionLimit) (hun : c.un + 400 < cLine)
    (h : ∀ x lf lvs k f n0 nw' t', Sub nw n0 → Sub n0 nw' → (∀ p ∈ n0, p.1 ≠ lf) → Abv nw lf → Ins n0 x 714 f → f (Str.ofString "left") = some (.ref lf) → f (Str.ofString "take_level") = none → (lf, listOf lvs.toArray k) ∈ nw' → All2 (LeftIs n0) lvs ts → R (.ref x) m nw' t') :
    Go sc c (call (.ref 714) [.ref l]) m nw t R := by
  kc_close
  nest_room
  rename_i x dx nw1 c1 m0 t0 hm0 hd1 hu1 hG1 hf1 h1 h2 s1 l1 l2
  refine CoG.mk (ItS.listN (vs := vs)) (by kpr_short) (sub1 (by tb_start)) (fun i ys nw' => Sub nw1 nw' ∧ ys.length = i ∧ ∀ j y t, ys[j]? = some y → ts[j]? = some t → ∃ a n, y = .ref a ∧ (a, tupO [.ref t.x, .bool t.f] n) ∈ nw' ∧ ExprIs nw t.x t.e) ⟨Sub.rf, rfl, fun j y t h _ => (nil_get h).elim⟩ (fun _ _ _ q => sub1 (q.1 _ (by tb_start))) ?turn ?done
  case turn =>
    intro c2 i v ys mC nw2 t2 d2 u2 G2 e2 hi hv ⟨hs, hlen, hys⟩
    obtain ⟨t, ht⟩ : ∃ t, ts[i]? = some t := ⟨_, List.getElem?_eq_getElem (by rw [← hT.1]; exact hi)⟩
    obtain ⟨a, g, rfl, ⟨dy, ys9, yn9, yb9, i1, i2, i3⟩, g1, g2, g3⟩ := hT.2 i v t hv ht
    nest_room
    refine ⟨by tb_start, by simp [hlen], fun j y t' hy ht' => ?_⟩
    by_cases hj : j < ys.length
    · rw [List.getElem?_append_left hj] at hy
      obtain ⟨a, n, e1, e2, e3⟩ := hys j y t' hy ht'
      exact ⟨a, n, e1, by tb_start, e3⟩
    · have hj2 : j = i := by
        have := (List.getElem?_eq_some_iff.mp hy).1
        rw [List.length_append, List.length_singleton] at this
        omega
      subst hj2
      rw [← hlen, List.getElem?_append_right (Nat.le_refl _), Nat.sub_self] at hy
      obtain rfl := Option.some.inj hy
      rw [ht] at ht'
      obtain rfl := Option.some.inj ht'
      exact ⟨_, _, rfl, by tb_start, g3⟩
  case done =>
    intro D k ys nw2 nw3 t2 ⟨hs, hlen, hys⟩ hm hs3 hA hne
    nest_room
    rename (Up1 _ _ (Str.ofString "left") _) => u9
    have hS : Sub nw _ := (show Sub nw nw3 from by tb_start).keep (by assumption) l1
    have hT3 : TupS nw2 _ := .tD (by assumption) (.tS hs3 .rf)
    refine h x D ys k _ (off D _) _ _ (off_abv hS (by tb_start)) off_sub off_ne (by tb_start) (ins_mk (off_mem (by tb_start) (by tb_start)) (off_mem (by tb_start) (by tb_start)) (by assumption)) (by tb_start) (by tb_start) (by tb_start) ⟨by rw [hlen]; exact hT.1, fun i v t hv ht => ?_⟩
    obtain ⟨a, n, e1, e2, e3⟩ := hys i v t hv ht
    exact ⟨a, n, e1, off_mem (hT3 _ e2 rfl) (hne _ e2), e3.mono (off_abv hS (by tb_start))⟩
end
end
section
section
variable {sc : Scope} {c : Cx} {m : Lc} {nw : Led} {t t' : Nat}
theorem Go.put_equal {x dx eq ea bo : Addr} {es : List DictEntry} {n b k k2 : Nat} {f fb : Str → Option Value} {vs ws : List Value} {v w : Value} {R : Value → Lc → Led → Nat → Prop}
    (h1 : (x, instObj 764 dx) ∈ nw) (h2 : (dx, dictOf es n) ∈ nw) (h3 : Flds es f b) (f1 : f (Str.ofString "equals") = some (.ref eq)) (f2 : f (Str.ofString "equal_affinities") = some (.ref ea)) (e1 : (eq, listOf vs.toArray k) ∈ nw) (e2 : (ea, listOf ws.toArray k2) ∈ nw)
    (hz1 : vs.length ≤ 1000) (hz2 : ws.length ≤ 1000) (l3 : @LT.lt Nat _ eq ea) (hb : Ins nw bo 662 fb) (g1 : fb (Str.ofString "value") = some v) (g2 : fb (Str.ofString "affinity") = some w) (hh1 : handedIn v = true) (hh2 : handedIn w = true) (hdp : c.dp + 2 < recursionLimit)
    (h : ∀ nwm nw' t', (eq, listOf (vs ++ [v]).toArray (k + 1)) ∈ nw' → (ea, listOf (ws ++ [w]).toArray (k2 + 1)) ∈ nw' → KeepT eq 3 nw nwm → KeepT ea 3 nwm nw' → R .none m nw' t') :
    Go sc c (call (.ref 775) [.ref x, .ref bo]) m nw t R := by
  obtain ⟨db, eb, nb, bb, i1, i2, i3⟩ := hb
  mem_news
  nest_room
  rename Keep eq _ nw _ => k1
  rename Keep ea _ _ _ => k2
  exact h _ _ _ (by tb_start) (by tb_start) (.tK k1 rfl .rf) (.tK k2 rfl .rf)
theorem Go.put_list {x dx bo db : Addr} {es eb : List DictEntry} {n b nb bb : Nat} {f fb : Str → Option Value} {v w : Value} {R : Value → Lc → Led → Nat → Prop}
    (h1 : (x, instObj 764 dx) ∈ nw) (h2 : (dx, dictOf es n) ∈ nw) (h3 : Flds es f b) (hb : b ≤ 800) (i1 : (bo, instObj 662 db) ∈ nw) (i2 : (db, dictOf eb nb) ∈ nw) (i3 : Flds eb fb bb) (g1 : fb (Str.ofString "value") = some v) (g2 : fb (Str.ofString "affinity") = some w) (hh1 : handedIn v = true) (hh2 : handedIn w = true) (hdp : c.dp + 2 < recursionLimit)
    (h : ∀ nw' es' n' f' f'' t', (dx, dictOf es' n') ∈ nw' → (x, instObj 764 dx) ∈ nw' → Flds es' f'' (b + 1 + 1) → Up1 f f' (Str.ofString "in_list") v → Up1 f' f'' (Str.ofString "in_affinity") w → KeepT dx 1 nw nw' → R .none m nw' t') :
    Go sc c (call (.ref 782) [.ref x, .ref bo]) m nw t R := by
  mem_news
  nest_room
  exact h _ _ _ _ _ _ (by tb_start) (by tb_start) (by assumption) (by assumption) (by assumption) (by tb_start)
end
end
section
theorem bool_fld {f : Str → Option Value} {x : Str} {b b' : Bool} (h : f x = some (.bool b)) (e : b = b') : f x = some (.bool b') := e ▸ h
section
variable {sc : Scope} {c : Cx} {m : Lc} {nw : Led} {t t' : Nat}
theorem Go.guess {x dx eq ea l : Addr} {es : List DictEntry} {n b : Nat} {f : Str → Option Value} {kd : Str} {iv : Value} {evs lvs : List Value} {eqk lqk : Nat} {pr : Int} {tp : Tok} {sg hl : Bool} {R : Value → Lc → Led → Nat → Prop}
    (h1 : (x, instObj 764 dx) ∈ nw) (h2 : (dx, dictOf es n) ∈ nw) (h3 : Flds es f b) (hb : b ≤ 100) (hp : PathF f kd iv eq ea (if hl = true then .ref l else .none) false) (he : (eq, listOf evs.toArray eqk) ∈ nw) (hel : evs.length ≤ 8) (hll : hl = true → (l, listOf lvs.toArray lqk) ∈ nw ∧ lvs.length ≤ 8)
    (h0 : 0 ≤ pr) (hpr : pr ≤ 8) (hdp : c.dp + 4 < recursionLimit) (hun : c.un + 400 < cLine)
    (h : ∀ nw' es' n' f' t', (x, instObj 764 dx) ∈ nw' → (dx, dictOf es' n') ∈ nw' → Flds es' f' (b + 3) → PathF f' kd iv eq ea (if hl = true then .ref l else .none) (sg && !hl) → KeepT dx 1 nw nw' → R .none m nw' t') :
    Go sc c (call (.ref 789) [.ref x, .int pr tp, .bool sg]) m nw t R := by
  obtain ⟨⟨tkd, f1⟩, f2, f3, f4, f5, f6, f7, f8, f9⟩ := hp
  mem_news
  nest_room
  refine FoG.mk (ItS.listN (vs := evs)) (sub1 (by tb_start)) (fun _ m' nw' => nw' = nw ∧ (∃ r t, 0 ≤ r ∧ r ≤ 1000 ∧ m' (Str.ofString "rows") = some (.int r t)) ∧ m' (Str.ofString "path") = some (.ref x) ∧ m' (Str.ofString "per_row") = some (.int pr tp) ∧ m' (Str.ofString "is_single") = some (.bool sg)) ⟨rfl, ⟨1000, _, by decide, by decide, by tb_start⟩, by tb_start, by tb_start, by tb_start⟩ (fun _ _ _ q => by rw [q.1]; exact sub1 he) ?turn ?done
  case turn =>
    intro c2 i u m1 nw1 t1 d2 u2 G2 e2 f2 hi hu ⟨e1, ⟨r, tr, r0, r1, g1⟩, g2, g3, g4⟩
    subst e1
    nest_room
    exact ⟨rfl, ⟨r.fdiv 10, _, fd_nonneg (by decide) r0, Int.le_trans (fd_le (by decide) r0) r1, by tb_start⟩, by tb_start, by tb_start, by tb_start⟩
  case done =>
    intro m1 nw1 t1 ⟨e1, ⟨r, tr, r0, r1, g1⟩, g2, g3, g4⟩
    subst e1
    cases hl
    case' true => obtain ⟨hl1, hl2⟩ := hll rfl
    all_goals cases sg
    all_goals (
      simp only [if_true, Bool.false_eq_true, if_false] at f7
      nest_room
      all_goals (mem_news; nest_room)
      all_goals exact h _ _ _ _ _ (by tb_start) (by tb_start) (by tb_start) ⟨⟨_, by tb_start⟩, by tb_start, by tb_start, by tb_start, by tb_start, by tb_start, by first | exact (show _ = some (Value.ref l) from by tb_start) | exact (show _ = some Value.none from by tb_start), bool_fld (by tb_start) (by rfl), by tb_start⟩ (by tb_start))
end
end
section
section
variable {sc : Scope} {c : Cx} {m : Lc} {nw : Led} {t t' : Nat}
theorem Go.bound {i : Int} {ti : Tok} {R : Value → Lc → Led → Nat → Prop} (hdp : c.dp + 4 < recursionLimit)
    (h : ∀ y lt dy ys yn g nw' t', (y, instObj 662 dy) ∈ nw' → (dy, dictOf ys yn) ∈ nw' → Flds ys g 5 → g (Str.ofString "value") = some (.ref lt) → g (Str.ofString "affinity") = some .none → Sub nw nw' → Abv nw dy → @LT.lt Nat _ dy y → R (.ref y) m nw' t') :
    Go sc c (call (.ref 1164) [.int i ti]) m nw t R := by
  mem_news
  nest_room
  exact h _ _ _ _ _ _ _ _ (by tb_start) (by tb_start) (by assumption) (by tb_start) (by tb_start) (by tb_start) (by tb_start) (by tb_start)
theorem Go.nidx {ix hd : Addr} {hvs : List Value} {hn : Nat} {R : Value → Lc → Led → Nat → Prop} (hh : (hd, listOf hvs.toArray hn) ∈ nw) (hl : hvs.length ≤ 8) (hb : ∀ v ∈ hvs, BoundIs nw v) (hdp : c.dp + 4 < recursionLimit) (hun : c.un + 400 < cLine)
    (h : ∀ (x dx eq ea : Nat) (evs : List Value) (eqk : Nat) (es : List DictEntry) (n : Nat) (f : Str → Option Value) (nw' : Led) (t' : Nat), (x, instObj 764 dx) ∈ nw' → (dx, dictOf es n) ∈ nw' → Flds es f 17 → PathF f (Str.ofString "index") (.ref ix) eq ea .none false → (eq, listOf evs.toArray eqk) ∈ nw' → evs.length = hvs.length → Sub nw nw' → Abv nw dx → @LT.lt Nat _ dx x → R (.ref x) m nw' t') :
    Go sc c (call (.ref 796) [.ref ix, .ref hd, .bool false]) m nw t R := by
  mem_news
  repeat' (first | kp_flats | ((with_reducible change Go _ _ (call (.ref 764) _) _ _ _ _); (refine Go.path (by exact .inl ⟨rfl, rfl⟩) (by ktr_room) ?_); intro x' dx' eq' ea' es' n' f' nw' t' h1' h2' f3' pf' e1' e2' s' l' l1' l2' l3') | ((with_reducible change Go _ _ (call (.ref 764) _) _ _ _ _); (refine Go.path (by exact .inr ⟨rfl, rfl⟩) (by ktr_room) ?_); intro x' dx' eq' ea' es' n' f' nw' t' h1' h2' f3' pf' e1' e2' s' l' l1' l2' l3'))
  refine FoG.mk (ItS.listN (vs := hvs)) (sub1 (by tb_start)) (fun i m' nw' => ∃ (evs avs : List Value) (eqk eak : Nat), (eq', listOf evs.toArray eqk) ∈ nw' ∧ (ea', listOf avs.toArray eak) ∈ nw' ∧ (x', instObj 764 dx') ∈ nw' ∧ (dx', dictOf es' n') ∈ nw' ∧ Sub nw nw' ∧ evs.length = i ∧ avs.length = i ∧ m' (Str.ofString "path") = some (.ref x') ∧ m' (Str.ofString "is_covering") = some (.bool false)) ⟨[], [], 0, 0, e1', e2', h1', h2', s', rfl, rfl, by tb_start, by tb_start⟩ (fun _ _ _ ⟨_, _, _, _, _, _, _, _, q, _⟩ => sub1 (q _ hh)) ?turn ?done
  case turn =>
    intro c2 i u m2 nw2 t2 d2 u2 G2 c2l f2 hi hu ⟨evs, avs, eqk, eak, q1, q2, q3, q4, q5, q6, q7, q8, q9⟩
    obtain ⟨y, g, bv, rfl, hI, b1, b2, b3⟩ := hb u (List.mem_of_getElem? hu)
    nest_room
    refine Go.put_equal q3 q4 f3' pf'.2.2.1 pf'.2.2.2.1 q1 q2 (by kpr_short) (by kpr_short) l3' (hI.mono q5) b1 b3 b2 rfl (by ktr_room) ?_
    intro nwm nw3 t3 r1 r2 k1 k2
    nest_room
    have l5 : Abv nw eq' := fun p hp => Nat.lt_trans (l' p hp) (Nat.lt_trans l1' l2')
    have l6 : Abv nw ea' := fun p hp => Nat.lt_trans (l5 p hp) l3'
    exact ⟨_, _, _, _, r1, r2, by tb_start, by tb_start, by tb_start, by simp [q6], by simp [q7], by tb_start, by tb_start⟩
  case done =>
    intro m2 nw2 t2 ⟨evs, avs, eqk, eak, q1, q2, q3, q4, q5, q6, q7, q8, q9⟩
    nest_room
    obtain ⟨⟨tkd, f1⟩, f2, f3, f4, f5, f6, f7, f8, f9⟩ := pf'
    exact h _ _ _ _ _ _ _ _ _ _ _ (by tb_start) (by tb_start) (by assumption) ⟨⟨_, by tb_start⟩, by tb_start, by tb_start, by tb_start, by tb_start, by tb_start, by tb_start, by tb_start, by tb_start⟩ (by tb_start) q6 (by tb_start) l' l1'
theorem Go.scan {so : Addr} {num : Int} {scols : List (Str × Str × Str)} {tbv : Value} {R : Value → Lc → Led → Nat → Prop} (hs : SrcIs nw so num scols tbv) (ht : tbv = .none ∨ ∃ tb, tbv = .ref tb) (hdp : c.dp + 4 < recursionLimit)
    (h : ∀ x dx eq ea es n f nw' t', (x, instObj 764 dx) ∈ nw' → (dx, dictOf es n) ∈ nw' → Flds es f 18 → PathF f (Str.ofString "scan") .none eq ea .none false → (eq, listOf ([] : List Value).toArray 0) ∈ nw' → Sub nw nw' → Abv nw dx → @LT.lt Nat _ dx x → R (.ref x) m nw' t') :
    Go sc c (call (.ref 803) [.ref so]) m nw t R := by
  obtain ⟨sfs, t1, l, vs, k, ⟨ds, es2, n2, b2, hi1, hi2, hi3⟩, hnum, hcol, htab, hl, hD⟩ := hs
  rcases ht with rfl | ⟨tb, rfl⟩
  all_goals (
    mem_news
    repeat' (first | kp_flats | ((with_reducible change Go _ _ (call (.ref 764) _) _ _ _ _); (refine Go.path (by exact .inl ⟨rfl, rfl⟩) (by ktr_room) ?_); intro x' dx' eq' ea' es' n' f' nw' t' h1' h2' f3' pf' e1' e2' s' l' l1' l2' l3') | ((with_reducible change Go _ _ (call (.ref 764) _) _ _ _ _); (refine Go.path (by exact .inr ⟨rfl, rfl⟩) (by ktr_room) ?_); intro x' dx' eq' ea' es' n' f' nw' t' h1' h2' f3' pf' e1' e2' s' l' l1' l2' l3'))
    obtain ⟨⟨tkd, f1⟩, f2, f3, f4, f5, f6, f7, f8, f9⟩ := pf'
    nest_room
    exact h _ _ _ _ _ _ _ _ _ (by tb_start) (by tb_start) (flds_le (by with_reducible assumption) (by decide)) ⟨⟨_, by tb_start⟩, by tb_start, by tb_start, by tb_start, by tb_start, by tb_start, by tb_start, by tb_start, by tb_start⟩ (by tb_start) (by tb_start) l' l1')
end
end
section
theorem src_mk2 {nw : List (Addr × Obj)} {so l c : Addr} {k kc : Nat} {fs : Str → Option Value} {num : Int} {t t1 t2 t3 : Tok} {tb : Value} {x1 x2 x3 : Str} (I : Ins nw so 834 fs) (g1 : fs (Str.ofString "number") = some (.int num t)) (g2 : fs (Str.ofString "columns") = some (.ref l)) (g3 : fs (Str.ofString "table") = some tb)
    (hl : (l, listOf [Value.ref c].toArray k) ∈ nw) (hc : (c, tupO [.str x1 t1, .str x2 t2, .str x3 t3] kc) ∈ nw) : SrcIs nw so num [(x1, x2, x3)] tb :=
  ⟨fs, t, l, _, k, I, g1, g2, g3, hl, .cons (.tuple hc (.cons (.str _ _) (.cons (.str _ _) (.cons (.str _ _) .nil)))) .nil⟩
local macro_rules | `(tactic| kct_strs) => `(tactic| (refine' Go.source ?hd ?_; (case hd => ktr_room); intro x' fs' nw' t' s' i' g1' g2' g3' g4' g5' g6' g7'))
local macro_rules | `(tactic| kct_strs) => `(tactic| (refine' Go.bname ?hn ?h1 ?h2 ?v1 ?v2 ?hs ?hp ?hq ?hl ?hd ?hu ?_; (case hn => exact ins_mk (by tb_start) (by tb_start) (by assumption)); (case h1 => tb_start); (case h2 => tb_start); (case v1 => exact rfl); (case v2 => exact rfl); (case hs => first | (refine' SrcIs.mono ?ha ?hb; (case ha => with_reducible assumption); (case hb => ((show Sub _ _); tb_start))) | (refine' src_mk2 ?i ?n ?c ?t ?l ?m; (case i => (refine' Ins.mono ?ia ?ib; (case ia => with_reducible assumption); (case ib => ((show Sub _ _); tb_start)))); (case n => with_reducible assumption); (case c => with_reducible assumption); (case t => with_reducible assumption); (case l => tb_start); (case m => tb_start))); (case hd => ktr_room); (case hu => ktr_room); (case hp => first | decide | omega); (case hq => first | decide | (simp only [hsl]; omega) | omega); (case hl => first | decide | omega); intro r' nw' t' s' n'))
section
variable {sc : Scope} {c : Cx} {m : Lc} {nw : Led} {t t' : Nat}
set_option maxHeartbeats 1000000 in
theorem term1_g {src so tb : Addr} {n : Nat} {scols : List (Str × Str × Str)} {R : Value → Lc → Led → Nat → Prop}
    (hG : c.G = SrcG src n) (hs : SrcIs nw so 4 scols (.ref tb)) (hsl : scols.length = 3)
    (hs1 : ∀ x ∈ scols, x.2.2.cps.size ≠ 0 ∧ x.2.2.cps.size ≤ 64 ∧ PyData.strOk x.2.2 = true) (hdp : c.dp + 10 < recursionLimit) (hun : c.un + 800 < cLine)
    (ret : ∀ r nw' t' T, Sub nw nw' → TRIs nw' (.ref r) T → TOk T → TPl T → R (.ref r) m nw' t') :
    Go sc c (call (.ref 1176) [.ref src, .ref so]) m nw t R := by
  obtain ⟨sfs, t1, sl, svs, sk, hI, hnum, hcol, htab, hl, hD⟩ := id hs
  mem_news
  nest_room
  · rename (GetElem?.getElem? _ _ = some _) => e9
    obtain rfl | rfl := get2 e9
    · refine ret _ _ _ ⟨_, none, _⟩ (by tb_start) (tr_mk (by tb_start) (by tb_start) (by tb_start) (by assumption) (by tb_start) (by tb_start) ⟨_, .inl (ins_mk (by tb_start) (by tb_start) (by assumption))⟩ .none) (fun a b c h => nomatch h) tpl_none
    · rename (NameIs _ _ _ _ _) => n9
      refine ret _ _ _ ⟨_, some (7, 0, Str.ofString "binary"), _⟩ (by tb_start) (tr_mk (by tb_start) (by tb_start) (by tb_start) (by assumption) (by tb_start) (by tb_start) ⟨by decide +kernel, by decide +kernel, .inl ((show NameIs _ _ 7 0 (Str.ofString "binary") from n9).mono (by (show Sub _ _); tb_start))⟩ (by rw [srow7]; exact .none)) (tok_of (by decide +kernel)) (tpl_of (by decide))
  · rename (GetElem?.getElem? _ _ = some _) => e9
    obtain rfl | ⟨w9, t9, rfl, hw9⟩ := get4 e9
    · nest_room
      · have hcz := coll_szs4 (by assumption) hs1
        rename (NameIs _ _ _ _ _) => n9
        rename (decide _ = true) => q9
        have q8 := of_decide_eq_true q9
        refine ret _ _ _ ⟨_, some (4, _, _), _⟩ (by tb_start) (tr_mk (by tb_start) (by tb_start) (by tb_start) (by assumption) (by tb_start) (by tb_start) (exI hcz.1 hcz.2.1 (n9.mono (by (show Sub _ _); tb_start))) (by rw [srow4]; exact row_mk2 (coll_neg q8) (by tb_start))) (tok_of hcz.2.2) (tpl_of (by kpr_short))
      · rename (decide _ = false) => q9
        have q8 := of_decide_eq_false q9
        obtain ⟨x, xa, xn, xt1, xt2, xt3, hx1, hx2, hx3⟩ := cols_item4 (by assumption) hD hsl (by kpr_short)
        nest_room
        have hcz := coll_szs4 (by assumption) hs1
        rename (NameIs _ _ _ _ _) => n9
        refine ret _ _ _ ⟨_, some (4, _, _), _⟩ (by tb_start) (tr_mk (by tb_start) (by tb_start) (by tb_start) (by assumption) (by tb_start) (by tb_start) (exI hcz.1 hcz.2.1 (n9.mono (by (show Sub _ _); tb_start))) (by rw [srow4]; exact row_mk2 hx3 (by tb_start))) (tok_of hcz.2.2) (tpl_of (by kpr_short))
    · rcases hw9 with rfl | rfl
      all_goals
        nest_room
        rename (NameIs _ _ _ _ _) => n9
        refine ret _ _ _ ⟨_, some (4, _, _), _⟩ (by tb_start) (tr_mk (by tb_start) (by tb_start) (by tb_start) (by assumption) (by tb_start) (by tb_start) (exC (n9.mono (by (show Sub _ _); tb_start)) (by tb_start) (by tb_start) (by assumption) (by tb_start) (by tb_start) (by decide +kernel) (by decide +kernel) (by decide +kernel)) (by rw [srow4]; refine' row_mk2 ?e4 ?m4; (case m4 => tb_start); (case e4 => show foldS _ = _; decide +kernel))) (tok_of (by show PyData.strOk (foldS _) = true; decide +kernel)) (tpl_of (by kpr_short))
end
end
section
theorem all2_one {P : Value → Tm → Prop} {v : Value} {t : Tm} (h : P v t) : All2 P [v] [t] := ⟨rfl, fun i v' t' h1 h2 => by
  match i, h1, h2 with
  | 0, h1, h2 => cases h1; cases h2; exact h⟩
theorem All2.to {a b : Led} {vs : List Value} {ts : List Tm} (h : All2 (LeftIs a) vs ts) (hs : Sub a b) : All2 (LeftIs b) vs ts := ⟨h.1, fun i v t h1 h2 => by
  obtain ⟨x, n, e, h3, h4⟩ := h.2 i v t h1 h2
  exact ⟨x, n, e, hs _ h3, h4.mono hs⟩⟩
theorem term_mk {nx : Led} {a dx x : Addr} {nn b : Nat} {es : List DictEntry} {g : Str → Option Value} {e : Option (Int × Int × Str)} {f : Bool} (h2 : (a, instObj 526 dx) ∈ nx) (h3 : (dx, dictOf es nn) ∈ nx) (h4 : Flds es g b)
    (g1 : g (Str.ofString "value") = some (.ref x)) (g2 : g (Str.ofString "descending") = some (.bool f)) (he : ExprIs nx x e) : TermIs nx (.ref a) ⟨x, e, f⟩ := ⟨a, g, rfl, ins_mk h2 h3 h4, g1, g2, he⟩
section
variable {sc : Scope} {c : Cx} {m : Lc} {nw : Led} {t t' : Nat}
theorem Go.apart {α : Type} {x : Sem α} {a b : Addr} {o o' : Obj} {R : α → Lc → Led → Nat → Prop} (h1 : (a, o) ∈ nw) (h2 : (b, o') ∈ nw) (hne : o ≠ o') (h : a ≠ b → Go sc c x m nw t R) : Go sc c x m nw t R := by
  intro s Q hk ht F I k
  refine h (fun e => ?_) s Q hk ht F I k
  subst e
  obtain ⟨g, hG, N, _⟩ := I
  exact hne (Option.some.inj ((N _ (mr h1)).1.symm.trans (N _ (mr h2)).1))
theorem listOf_ne {vs ws : List Value} {n k : Nat} (h : vs.length ≠ ws.length) : listOf vs.toArray n ≠ listOf ws.toArray k := fun e => by
  have e2 := congrArg Obj.data e
  injection e2 with e3 e4
  exact h (by simpa using congrArg Array.size e3)
theorem Go.sel {src : Addr} {n : Nat} {R : Value → Lc → Led → Nat → Prop} (hG : c.G = SrcG src n) (hdp : c.dp + 20 < recursionLimit) (hun : c.un + 2000 < cLine) (h : ∀ nw' t', Sub nw nw' → R (.bool true) m nw' t') : Go sc c (call (.ref 1212) [.ref src]) m nw t R := by
  mem_news
  repeat' (first | kp_flats | ((with_reducible change Go _ _ (call (.ref 834) _) _ _ _ _); (refine Go.source (by ktr_room) ?_); intro so' sf' nw' t' ss' si' sg1' sg2' sg3' sg4' sg5' sg6' sg7') | ((with_reducible change Go _ _ (call (.ref 845) _) _ _ _ _); (refine Go.bname (by tb_start) (by tb_start) (by tb_start) (by exact rfl) (by exact rfl) (by first | exact SrcIs.to (by with_reducible assumption) (by tb_start) | exact src_mk2 (by tb_start) (by tb_start) (by tb_start) (by tb_start) (by tb_start) (by tb_start)) (by first | decide | omega) (by first | decide | omega) (by first | decide | omega) (by ktr_room) (by ktr_room) ?_); intro r' nw' t' s' n'))
  rename (NameIs _ _ _ _ _) => n9
  refine Go.owk (ts := [⟨_, some (4, 0, Str.ofString "binary"), _⟩]) (by tb_start) (all2_one (term_mk (by tb_start) (by tb_start) (by assumption) (by tb_start) (by tb_start) (exI (by decide +kernel) (by decide +kernel) ((show NameIs _ _ 4 0 (Str.ofString "binary") from n9).mono (by (show Sub _ _); tb_start))))) (Nat.le_of_ble_eq_true rfl) (by ktr_room) (by ktr_room) ?_
  intro x lf lvs k f n0 nw2 t2 s1 s2 ho ha hI hl htl hm hA
  obtain ⟨v9, r9, rfl, hv9, A8⟩ := hA.head
  obtain rfl := A8.nil
  have I9 := hI
  obtain ⟨dx, es, n, b, i1, i2, i3⟩ := I9
  repeat' (first | kp_flats | ((with_reducible change Go _ _ (call (.ref 803) _) _ _ _ _); (refine Go.scan (by exact src_mk2 (by tb_start) (by tb_start) (by tb_start) (by tb_start) (by tb_start) (by tb_start)) (by exact .inl rfl) (by ktr_room) ?_); intro x1' dx1' eq1' ea1' es1' n1' f1' nw1' t1' g1' g2' g3' pf1' p1' ps' pl' pl1'))
  refine Go.apart (a := eq1') (b := lf) (by tb_start) (by tb_start) (listOf_ne (by simp)) fun hne => ?_
  have e9 : ∀ x f, Mine.lvl 4 false (fixOf ⟨.scan, [], 0, false, false⟩) [⟨x, some (4, 0, Str.ofString "binary"), f⟩] (ordOf ⟨.scan, [], 0, false, false⟩ false) none false = (0, none, false) := fun x f => lvl_end2 (by simp [fixOf])
  refine Go.lvl (lf := lf) (num := 4) (d := ⟨.scan, [], 0, false, false⟩) (hasT := false) (hky := false) (f := f) (by tb_start) off_sub off_ne (hI.mono (off_of (by tb_start) ho)) hl (hA.to (off_of (by tb_start) ho)) (Nat.le_of_ble_eq_true rfl)
    ((show SrcIs n0 _ 4 _ _ from src_mk2 (by tb_start) (by tb_start) (by tb_start) (by tb_start) (by tb_start) (by tb_start)).mono (off_of (by tb_start) ho))
    (pathIs_mk (l := 0) (off_mem (by tb_start) (Nat.ne_of_gt (Nat.lt_trans (pl' _ hm) pl1'))) (off_mem (by tb_start) (Nat.ne_of_gt (pl' _ hm))) g3' pf1' (off_mem (by tb_start) hne) rfl (fun h => nomatch h)) (by simp) (Nat.zero_le _) (Nat.zero_le _) (fun _ h => nomatch h) (fun t9 ht9 => by rw [List.mem_singleton.mp ht9]; exact tok_of (by decide +kernel)) (by ktr_room) (by ktr_room) ?_
  intro r k3 n3 nw3 t3 hK hS hm3 hr3
  rw [e9] at hm3 hr3
  have s9 : Sub n0 nw3 := Sub.tr hS (off_of (show Sub n0 _ by tb_start) ho)
  nest_room
  exact h _ _ (by tb_start)
end
end
section
theorem up1_gen {m m' : Lc} {x : Str} {b : Bool} (h : Up1 m m' x (.bool b)) : ∃ b', b = b' ∧ Up1 m m' x (.bool b') := ⟨b, rfl, h⟩
theorem up1_int {m m' : Lc} {x : Str} {i : Int} {u : Tok} (h : Up1 m m' x (.int i u)) : ∃ i', i' = i ∧ Up1 m m' x (.int i' u) := ⟨i, rfl, h⟩
theorem abv_up {l : Led} {a b : Addr} (h : Abv l a) (hl : @LT.lt Nat _ a b) : Abv l b := fun p hp => Nat.lt_trans (h p hp) hl
section
variable {sc : Scope} {c : Cx} {m : Lc} {nw : Led} {t t' : Nat}
theorem Go.lpath {src so cl tb : Addr} {num : Int} {n : Nat} {scols : List (Str × Str × Str)} {cvs : List Value} {ck : Nat} {cols : List Col} {R : Value → Lc → Led → Nat → Prop}
    (hG : c.G = SrcG src n) (hs : SrcIs nw so num scols (.ref tb)) (hc : (cl, listOf cvs.toArray ck) ∈ nw) (hC : DatAll nw cvs (cols.map colD)) (hcz : cols.length ≤ 4) (hdp : c.dp + 10 < recursionLimit) (hun : c.un + 800 < cLine)
    (ret : ∀ (pt : Nat) (d : PathD) nw' t', Sub nw nw' → LPIs nw' pt d → PGood d cols → R (.ref pt) m nw' t') :
    Go sc c (call (.ref 1169) [.ref src, .ref so, .ref cl]) m nw t R := by
  have hC9 := DatAll.length hC
  rw [List.length_map] at hC9
  mem_news
  repeat' (first | kp_flats | ((with_reducible change Go _ _ (call (.ref 764) _) _ _ _ _); (refine Go.path (by exact .inl ⟨rfl, rfl⟩) (by ktr_room) ?_); intro x1' dx1' eq1' ea1' es1' n1' f1' nw1' t1' g1' g2' g3' pf1' p1' p2' ps' pl' pl1' pl2' pl3') | ((with_reducible change Go _ _ (call (.ref 803) _) _ _ _ _); (refine Go.scan (by exact SrcIs.mono (by with_reducible assumption) (by (show Sub _ _); tb_start)) (by exact .inr ⟨_, rfl⟩) (by ktr_room) ?_); intro x1' dx1' eq1' ea1' es1' n1' f1' nw1' t1' g1' g2' g3' pf1' p1' ps' pl' pl1') | ((with_reducible change Go _ _ (call (.ref 1164) _) _ _ _ _); (refine Go.bound (by ktr_room) ?_); intro y1' lt' dy' ys' yn' g1' nw1' t1' b1' b2' b3' v1' v2' bs' bl' bl1'))
  · exact ret _ ⟨.scan, [], 0, false, false⟩ _ _ (by tb_start) ⟨_, _, _, [_], [], 0, 0, 0, by tb_start, pathIs_mk (l := 0) (by tb_start) (by tb_start) g3' pf1' (by tb_start) rfl (fun h => nomatch h), by tb_start, .cons (col_mk (x := rowidCol) (show (_, tupO [.int (-1) _, .str (Str.ofString "binary") _, .bool false] _) ∈ _ from by tb_start)) .nil, by tb_start, .nil⟩ ⟨Nat.le_refl _, by decide, fun h => nomatch h⟩
  · exact ret _ ⟨.range, [], 0, false, false⟩ _ _ (by tb_start) ⟨_, _, _, [_], [], 0, 0, 0, by tb_start, pathIs_mk (l := 0) (by tb_start) (by tb_start) g3' pf1' (by tb_start) rfl (fun h => nomatch h), by tb_start, .cons (col_mk (x := rowidCol) (show (_, tupO [.int (-1) _, .str (Str.ofString "binary") _, .bool false] _) ∈ _ from by tb_start)) .nil, by tb_start, .nil⟩ ⟨Nat.le_refl _, by decide, fun h => nomatch h⟩
  · refine Go.put_equal (by tb_start) (by tb_start) (by tb_start) pf1'.2.2.1 pf1'.2.2.2.1 (by tb_start) (by tb_start) (by decide) (by decide) pl3' (by tb_start) v1' v2' rfl rfl (by ktr_room) ?_
    intro nwm nw3 t3 r1 r2 k1 k2
    have l5 := abv_up (abv_up pl' pl1') pl2'
    have l6 := abv_up l5 pl3'
    nest_room
    refine Go.guess (by tb_start) (by tb_start) (by tb_start) (by decide) (hl := false) (l := 0) (lvs := []) (lqk := 0) pf1' (by tb_start) (Nat.le_of_ble_eq_true rfl) (fun h => nomatch h) (by decide) (by decide) (by ktr_room) (by ktr_room) ?_
    intro nw4 es4 n4 f4 t4 a1 a2 a3 a4 a5
    nest_room
    rename (_ == (2 : Int)) = true => e2
    exact ret _ ⟨.rowid, [rowidCol], 1, false, true⟩ _ _ (by tb_start) ⟨_, _, _, [], [], 0, 0, 0, lp_bb (by tb_start) e2, pathIs_mk (l := 0) (by tb_start) (by tb_start) a3 a4 (by tb_start) rfl (fun h => nomatch h), by tb_start, .nil, by tb_start, .nil⟩ ⟨Nat.le_refl _, by decide, fun h => nomatch h⟩
  · refine Go.put_list (by tb_start) (by tb_start) (by tb_start) (by decide) (by tb_start) (by tb_start) (by tb_start) (by tb_start) (by tb_start) rfl rfl (by ktr_room) ?_
    intro nw3 es3 n3 f3 f4 t3 r1 r2 r3 r4 r5 k1
    nest_room
    obtain ⟨⟨tk, f1⟩, f2, f3, f4, f5, f6, f7, f8, f9⟩ := pf1'
    refine Go.guess (hl := true) (by tb_start) (by tb_start) (by tb_start) (by decide) ⟨⟨_, by tb_start⟩, by tb_start, by tb_start, by tb_start, by tb_start, by tb_start, (show _ = some (Value.ref _) from by tb_start), by tb_start, by tb_start⟩ (by tb_start) (Nat.le_of_ble_eq_true rfl) (fun _ => ⟨by tb_start, Nat.le_of_ble_eq_true rfl⟩) (by decide) (by decide) (by ktr_room) (by ktr_room) ?_
    intro nw4 es4 n4 f4 t4 a1 a2 a3 a4 a5
    nest_room
    rename (_ == (2 : Int)) = false => e2
    exact ret _ ⟨.rowid, [rowidCol], 0, true, false⟩ _ _ (by tb_start) ⟨_, _, _, [], [], 0, 0, 0, lp_bb (by tb_start) e2, pathIs_mk (by tb_start) (by tb_start) a3 a4 (by tb_start) rfl (fun h => nomatch h), by tb_start, .nil, by tb_start, .nil⟩ ⟨Nat.zero_le _, by decide, fun h => nomatch h⟩
  · refine Go.nidx (hvs := List.replicate _ (.ref y1')) (by tb_start) (by rw [List.length_replicate]; omega) (fun v hv => by obtain rfl := List.eq_of_mem_replicate hv; exact ⟨_, _, _, rfl, by tb_start, v1', rfl, v2'⟩) (by ktr_room) (by ktr_room) ?_
    intro x dx eq ea evs eqk es n f nw2 t2 i1 i2 i3 pf i4 il is ia iab
    rename (Up1 _ _ (Str.ofString "has_list") _) => uh
    rename (Up1 _ _ (Str.ofString "equals") _) => ue
    obtain ⟨e, rfl, ue⟩ := up1_int ue
    obtain ⟨hl, ehl, uh⟩ := up1_gen uh
    cases hl
    · nest_room
      refine Go.guess (hl := false) (l := 0) (lvs := []) (lqk := 0) (by tb_start) (by tb_start) (by tb_start) (by decide) pf (by tb_start) (by rw [il, List.length_replicate]; omega) (fun h => nomatch h) (by decide) (by decide) (by ktr_room) (by ktr_room) ?_
      intro nw4 es4 n4 f4 t4 a1 a2 a3 a4 a5
      nest_room
      rename_i D9 nw9 h9 s9 l9
      refine CoG.mk (ItS.listN (vs := cvs.take e.toNat)) (by rw [List.length_take]; omega) (sub1 h9) (fun i ys nw' => Sub nw9 nw' ∧ DatAll nw' ys ((((cols.take e.toNat).take i).map fun x => (x.p, x.c)).map fixD)) ⟨Sub.rf, .nil⟩ (fun _ _ _ q => sub1 (q.1 _ h9)) ?turn ?done
      case turn =>
        intro c2 i v ys mC nw2 t2 d2 u2 G2 l2 hi hv ⟨hs, hD⟩
        obtain ⟨x, a, n, tp, tc, hx, rfl, hm⟩ := colsAt (cols := cols.take e.toNat) (by rw [List.map_take]; exact datAll_take _ hC) hv
        nest_room
        refine ⟨by tb_start, ?_⟩
        rw [take_snoc hx, List.map_append]
        exact datAll_snoc (DatAll.mono (show Sub _ _ by tb_start) hD) (fix_mk (x := (x.p, x.c)) (by tb_start))
      case done =>
        intro D k ys nw2 nw3 t2 ⟨hs, hD⟩ hm hs3 hA hne
        nest_room
        have e5 : ((cols.take e.toNat).take (cvs.take e.toNat).length) = cols.take e.toNat := List.take_of_length_le (by simp only [List.length_take]; omega)
        rw [e5] at hD
        exact ret _ ⟨.index, cols, e.toNat, false, _⟩ _ _ (by tb_start) ⟨_, _, _, List.drop e.toNat cvs ++ [_], ys, _, _, _, lp_bb (by tb_start) lp_sg0, pathIs_mk (l := 0) (by tb_start) (by tb_start) a3 a4 (by tb_start) (by rw [il, List.length_replicate]) (fun _ => ⟨_, _, _, _, _, rfl, by tb_start, by tb_start, by tb_start, DatAll.mono (show Sub _ _ from by tb_start) hC⟩), by tb_start, (by
          have e8 : (ordOf ⟨.index, cols, e.toNat, false, false⟩ true).map colD = (cols.map colD).drop e.toNat ++ [colD rowidCol] := by simp [ordOf, List.map_drop]
          refine (show DatAll _ _ ((ordOf ⟨.index, cols, e.toNat, false, false⟩ true).map colD) from ?_)
          rw [e8]
          exact datAll_snoc (datAll_drop _ (DatAll.mono (show Sub _ _ from by tb_start) hC)) (col_mk (x := rowidCol) (show (_, tupO [.int (-1) _, .str (Str.ofString "binary") _, .bool false] _) ∈ _ from by tb_start))), by tb_start, DatAll.mono (show Sub _ _ from by tb_start) hD⟩ ⟨(by dsimp only; omega), (by dsimp only; omega), fun _ => rfl⟩
    · nest_room
      refine Go.put_list (by tb_start) (by tb_start) (by tb_start) (by decide) (by tb_start) (by tb_start) (by tb_start) (by tb_start) (by tb_start) rfl rfl (by ktr_room) ?_
      intro nw3 es3 n3 f3 f4 t3 r1 r2 r3 r4 r5 k1
      nest_room
      obtain ⟨⟨tk, f1⟩, f2, f3, f4, f5, f6, f7, f8, f9⟩ := pf
      refine Go.guess (hl := true) (by tb_start) (by tb_start) (by tb_start) (by decide) ⟨⟨_, by tb_start⟩, by tb_start, by tb_start, by tb_start, by tb_start, by tb_start, (show _ = some (Value.ref _) from by tb_start), by tb_start, by tb_start⟩ (by tb_start) (by rw [il, List.length_replicate]; omega) (fun _ => ⟨by tb_start, Nat.le_of_ble_eq_true rfl⟩) (by decide) (by decide) (by ktr_room) (by ktr_room) ?_
      intro nw4 es4 n4 f4 t4 a1 a2 a3 a4 a5
      nest_room
      rename_i D9 nw9 h9 s9 l9
      refine CoG.mk (ItS.listN (vs := cvs.take e.toNat)) (by rw [List.length_take]; omega) (sub1 h9) (fun i ys nw' => Sub nw9 nw' ∧ DatAll nw' ys ((((cols.take e.toNat).take i).map fun x => (x.p, x.c)).map fixD)) ⟨Sub.rf, .nil⟩ (fun _ _ _ q => sub1 (q.1 _ h9)) ?turn ?done
      case turn =>
        intro c2 i v ys mC nw2 t2 d2 u2 G2 l2 hi hv ⟨hs, hD⟩
        obtain ⟨x, a, n, tp, tc, hx, rfl, hm⟩ := colsAt (cols := cols.take e.toNat) (by rw [List.map_take]; exact datAll_take _ hC) hv
        nest_room
        refine ⟨by tb_start, ?_⟩
        rw [take_snoc hx, List.map_append]
        exact datAll_snoc (DatAll.mono (show Sub _ _ by tb_start) hD) (fix_mk (x := (x.p, x.c)) (by tb_start))
      case done =>
        intro D k ys nw2 nw3 t2 ⟨hs, hD⟩ hm hs3 hA hne
        nest_room
        have e5 : ((cols.take e.toNat).take (cvs.take e.toNat).length) = cols.take e.toNat := List.take_of_length_le (by simp only [List.length_take]; omega)
        rw [e5] at hD
        exact ret _ ⟨.index, cols, e.toNat, true, _⟩ _ _ (by tb_start) ⟨_, _, _, [], ys, _, _, _, lp_bb (by tb_start) (lp_sg1 ehl), pathIs_mk (by tb_start) (by tb_start) a3 a4 (by tb_start) (by rw [il, List.length_replicate]) (fun _ => ⟨_, _, _, _, _, rfl, by tb_start, by tb_start, by tb_start, DatAll.mono (show Sub _ _ from by tb_start) hC⟩), by tb_start, .nil, by tb_start, DatAll.mono (show Sub _ _ from by tb_start) hD⟩ ⟨(by dsimp only; omega), (by dsimp only; omega), fun _ => rfl⟩
end
end
section
theorem isRow_eq {pl : Int} {hky : Bool} (h : -1 ≤ pl) : (pl == -1 || (hky && pl == 1)) = isRow pl hky := by
  unfold isRow
  have e : (pl == -1) = decide (pl < 0) := by
    by_cases q : pl = -1
    · subst q; rfl
    · have : ¬ pl < 0 := by omega
      simp [q, this]
  rw [e]
section
variable {sc : Scope} {c : Cx} {m : Lc} {nw : Led} {t t' : Nat}
theorem Go.lled {rl fl : Addr} {rvs fvs : List Value} {rk fk : Nat} {cols : List Col} {fx : List (Int × Str)} {R : Value → Lc → Led → Nat → Prop} (hr : (rl, listOf rvs.toArray rk) ∈ nw) (hR : DatAll nw rvs (cols.map colD)) (hf : (fl, listOf fvs.toArray fk) ∈ nw) (hF : DatAll nw fvs (fx.map fixD)) (hok : ∀ x ∈ fx, PyData.strOk x.2 = true) (hok2 : ∀ x ∈ cols, PyData.strOk x.c = true) (hsz : rvs.length ≤ 64) (hdp : c.dp + 1 < recursionLimit) (hun : c.un + 100 < cLine)
    (h : ∀ r vs k nw' t', Sub nw nw' → (r, listOf vs.toArray k) ∈ nw' → Abv nw r → DatAll nw' vs ((ledOf fx cols).map colD) → R (.ref r) m nw' t') :
    Go sc c (call (.ref 1188) [.ref rl, .ref fl]) m nw t R := by
  ((with_reducible refine' Go.enterC ?a0 ?a1 ?a2 ?a3 ?a4 ?a5 ?a6 ?a7 ?a8 ?_); (case a0 | a1 => k_is); (case a2 => ktr_room); (case a3 => intro s9 X9; k_sizes); (case a4 => exact rfl); (case a5 => decide); (case a6 | a7 | a8 => exact rfl); intro c1 L1 m0 nw0 t0 hd1 hu1 hG1 hf1 hc1 hm0 s0 a0 hC0)
  obtain ⟨o1, ho1, hd0⟩ := hC0 (Str.ofString "fixed") (L1 + 1) (.head _)
  have hd0 : o1.data = .cell (some (.ref fl)) := hd0
  have g1 : m0 (Str.ofString "rows") = some (.ref rl) := by rw [hm0]; rfl
  clear hm0
  nest_room
  refine CoG.mk (ItS.listN (vs := rvs)) (by kpr_short) (sub1 (by tb_start)) (fun i ys nw' => Sub nw0 nw' ∧ DatAll nw' ys ((ledOf fx (cols.take i)).map colD)) ⟨Sub.rf, .nil⟩ (fun _ _ _ q => sub1 (q.1 _ (s0 _ hr))) ?turn ?done
  case turn =>
    intro c2 i v ys mC nw2 t2 d2 u2 G2 l2 hi hv ⟨hs, hD⟩
    obtain ⟨x, a, n, tp, tc, hx, rfl, hm⟩ := colsAt hR hv
    have hm := hs _ (s0 _ hm)
    nest_room
    refine Go.notInD (by tb_start) hF (by tb_start) (fix_mk (x := (x.p, x.c)) (by tb_start)) Sub.rf (fixs_ok hok) (fix_ok (hok2 x (List.mem_of_getElem? hx))) (by ktr_room) ?_
    have e1 : ledOf fx (cols.take (i + 1)) = ledOf fx (cols.take i) ++ ledOf fx [x] := by rw [take_at hx]; exact List.filter_append ..
    nest_room
    · rename (!_) = true => cond
      refine ⟨by tb_start, ?_⟩
      have e : ledOf fx [x] = [x] := by
        have : ¬ ((x.p, x.c) ∈ fx) := by
          simp only [Bool.not_eq_true', decide_eq_false_iff_not] at cond
          exact fun q => cond (mem_fix.mpr q)
        simp [ledOf, this]
      rw [e1, e, List.map_append]
      exact datAll_snoc (DatAll.mono (show Sub _ _ by tb_start) hD) (col_mk (x := x) (by tb_start))
    · rename (!_) = false => cond
      refine ⟨by tb_start, ?_⟩
      have e : ledOf fx [x] = [] := by
        have : (x.p, x.c) ∈ fx := by
          simp only [Bool.not_eq_false', decide_eq_true_eq] at cond
          exact mem_fix.mp cond
        simp [ledOf, this]
      rw [e1, e, List.append_nil]
      exact DatAll.mono (show Sub _ _ by tb_start) hD
  case done =>
    intro D k ys nw2 nw3 t2 ⟨hs, hD⟩ hm hs3 hA hne
    have e5 : cols.take rvs.length = cols := List.take_of_length_le (by have := DatAll.length hR; rw [List.length_map] at this; omega)
    rw [e5] at hD
    nest_room
    exact h _ _ _ _ _ (by tb_start) hm (by tb_start) (DatAll.mono hs3 hD)
theorem Go.lahead {cl9 : Addr} {cvs : List Value} {ck : Nat} {cols : List Col} {hky : Bool} {R : Value → Lc → Led → Nat → Prop} (hc : (cl9, listOf cvs.toArray ck) ∈ nw) (hC : DatAll nw cvs (cols.map colD)) (hcp : ∀ x ∈ cols, -1 ≤ x.p) (hsz : cols.length ≤ 16) (hdp : c.dp + 4 < recursionLimit) (hun : c.un + 400 < cLine)
    (h : ∀ r vs k nw' t', Sub nw nw' → (r, listOf vs.toArray k) ∈ nw' → DatAll nw' vs ((aheadOf hky cols).map colD) → R (.ref r) m nw' t') :
    Go sc c (call (.ref 1193) [.ref cl9, .bool hky]) m nw t R := by
  have hl := DatAll.length hC
  rw [List.length_map] at hl
  ((with_reducible refine' Go.enterC ?a0 ?a1 ?a2 ?a3 ?a4 ?a5 ?a6 ?a7 ?a8 ?_); (case a0 | a1 => k_is); (case a2 => ktr_room); (case a3 => intro s9 X9; k_sizes); (case a4 => exact rfl); (case a5 => decide); (case a6 | a7 | a8 => exact rfl); intro c1 L1 m0 nw0 t0 hd1 hu1 hG1 hf1 hc1 hm0 s0 a0 hC0)
  obtain ⟨o1, ho1, hd0⟩ := hC0 (Str.ofString "columns") (L1 + 1) (.tail _ (.head _))
  obtain ⟨o2, ho2, hd2⟩ := hC0 (Str.ofString "has_key") (L1 + 2) (.head _)
  have hd0 : o1.data = .cell (some (.ref cl9)) := hd0
  have hd2 : o2.data = .cell (some (.bool hky)) := hd2
  clear hm0
  nest_room
  rename_i r9 nw9 t9 a9 b9 c9 h9 s9 l9
  refine CoG.mk (ItS.rangeN (a := 0) (n := cvs.length) (Int.zero_add _).symm (by decide) (by kpr_short)) (by kpr_short) (sub1 h9) (fun i ys nw' => Sub nw9 nw' ∧ MkJ hky cols i ys) ⟨Sub.rf, .inl ⟨rfl, fun x hx => by simp at hx⟩⟩ (fun _ _ _ q => sub1 (q.1 _ h9)) ?turn ?done
  case turn =>
    rintro c2 i v ys mC nw2 t2 d2 u2 G2 l2 hi ⟨tt, rfl⟩ ⟨hs, hM⟩
    obtain ⟨v, hv⟩ : ∃ v, cvs[i]? = some v := ⟨_, List.getElem?_eq_getElem hi⟩
    obtain ⟨x, a, n, tp, tc, hx, rfl, hm⟩ := colsAt hC hv
    have hm := hs _ (s9 _ (s0 _ hm))
    have hv9 : cvs[((0 : Int) + (i : Int)).toNat]? = some (.ref a) := by rw [Int.zero_add]; exact hv
    have hpl := hcp x (List.mem_of_getElem? hx)
    repeat' (first | kp_flats | ((with_reducible change Go _ _ (call (.ref 1183) _) _ _ _ _); (refine Go.lrid (by ktr_room) ?_); intro t'))
    · rename (_ || _) = true => hr
      exact ⟨by tb_start, mkj_yes hM hx (by rw [← isRow_eq hpl]; exact hr)⟩
    · rename (_ || _) = false => hr
      exact ⟨by tb_start, mkj_no hM hx (by rw [← isRow_eq hpl]; exact hr)⟩
  case done =>
    intro D k ys nw2 nw3 t2 ⟨hs, hM⟩ hm hs3 hA hne
    rcases hM with ⟨rfl, h2⟩ | ⟨k0, t0, r0, c0, rfl, h1, h2, h3⟩
    · nest_room
      exact h _ _ _ _ _ (by tb_start) (by tb_start) (by
        have e2 : aheadOf hky cols = cols := ahead_all (by rw [hl, List.take_length] at h2; exact h2)
        rw [e2]
        exact DatAll.mono (show Sub _ _ by tb_start) hC)
    · have hk0 : k0 < cvs.length := by rw [hl]; exact (List.getElem?_eq_some_iff.mp h1).1
      nest_room
      have e3 : ((k0 : Int) + 1).toNat = k0 + 1 := by omega
      exact h _ _ _ _ _ (by tb_start) (by tb_start) (by
        rw [ahead_at h1 h2 h3, List.map_take, e3]
        exact datAll_take _ (DatAll.mono (show Sub _ _ by tb_start) hC))
end
end
section
theorem lt_n1 {x t1 t2 : Bool} (h : (t1 != t2) = true) : (x && (t1 == t2)) = false := okB_f1 h
theorem lt_n2 {a b e t : Bool} (h1 : (!b) = true) (h2 : (!e) = true) : ((a && b || e) && t) = false := by revert h1 h2; cases a <;> cases b <;> cases e <;> simp
theorem lt_n3 {a b e t : Bool} (h1 : a = false) (h2 : (!e) = true) : ((a && b || e) && t) = false := by revert h1 h2; cases a <;> cases b <;> cases e <;> simp
theorem lt_j1 {a b e t1 t2 : Bool} (h1 : a = true) (h2 : (!b) = false) (h3 : (t1 != t2) = false) : ((a && b || e) && (t1 == t2)) = true := by revert h1 h2 h3; cases a <;> cases b <;> cases t1 <;> cases t2 <;> simp
theorem lt_j2 {x e t1 t2 : Bool} (h2 : (!e) = false) (h3 : (t1 != t2) = false) : ((x || e) && (t1 == t2)) = true := by revert h2 h3; cases e <;> cases t1 <;> cases t2 <;> simp
section
variable {sc : Scope} {c : Cx} {m : Lc} {nw : Led} {t t' : Nat}
theorem Go.ninR {l : Addr} {rvs : List Value} {k : Nat} {n1 : Led} {rows : List (Option Row)} {R : Value → Lc → Led → Nat → Prop} (hm : (l, listOf rvs.toArray k) ∈ nw) (hR : DatAll n1 rvs (rows.map rowD)) (hs : Sub n1 nw) (hu : c.un + 8 < cLine) (h : R (.bool (rows.any (·.isNone))) m nw t) : Go sc c (compareOp .In .none (.ref l)) m nw t R := by
  intro s Q hk ht F I k
  have I9 := I
  obtain ⟨g, hG, N, hne⟩ := I
  subst ht
  exact nin_c (KStb.news_of N fun p hp => mr hp) hm hR hs hu (k _ s.heap _ _ _ F I9 h)
theorem Go.nePair {a b : Addr} {na nb : Nat} {p q : Int} {x y : Str} {t1 t2 t3 t4 : Tok} {R : Value → Lc → Led → Nat → Prop} (h1 : (a, tupO [.int p t1, .str x t2] na) ∈ nw) (h2 : (b, tupO [.int q t3, .str y t4] nb) ∈ nw) (hu : c.un + 8 < cLine) (h : R (.bool (!(p == q && x == y))) m nw t) : Go sc c (compareOp .NotEq (.ref a) (.ref b)) m nw t R := by
  intro s Q hk ht F I k
  have I9 := I
  obtain ⟨g, hG, N, hne⟩ := I
  subst ht
  exact ne_pair (KStb.news_of N fun p hp => mr hp) h1 h2 hu (k _ s.heap _ _ _ F I9 h)
theorem Go.islet {rl pt x cl9 fl : Addr} {rvs cvs fvs : List Value} {rk ck fk pn : Nat} {rows : List (Option Row)} {cols : List Col} {fx : List (Int × Str)} {sg hky : Bool} {R : Value → Lc → Led → Nat → Prop}
    (hr : (rl, listOf rvs.toArray rk) ∈ nw) (hR : DatAll nw rvs (rows.map rowD)) (hp : (pt, tupO [.ref x, .ref cl9, .ref fl, .bool sg] pn) ∈ nw) (hc : (cl9, listOf cvs.toArray ck) ∈ nw) (hC : DatAll nw cvs (cols.map colD)) (hf : (fl, listOf fvs.toArray fk) ∈ nw) (hF : DatAll nw fvs (fx.map fixD))
    (hro : ∀ r, some r ∈ rows → PyData.strOk r.c = true) (hrp : ∀ r, some r ∈ rows → -1 ≤ r.p) (hco : ∀ x ∈ cols, PyData.strOk x.c = true) (hcp : ∀ x ∈ cols, -1 ≤ x.p) (hfo : ∀ x ∈ fx, PyData.strOk x.2 = true) (hrz : rvs.length ≤ 16) (hcz : cols.length ≤ 16) (hdp : c.dp + 8 < recursionLimit) (hun : c.un + 800 < cLine)
    (h : ∀ nw' t', Sub nw nw' → R (.bool (isLet rows cols fx sg hky)) m nw' t') :
    Go sc c (call (.ref 1200) [.ref rl, .ref pt, .bool hky]) m nw t R := by
  mem_news
  repeat' (first | kp_flats | ((with_reducible refine' Go.asgT3 ?a0 ?a1 ?_); (case a0 | a1 => exact rfl)) | (with_reducible refine AsT3.mk ?_))
  refine Go.ninR (by tb_start) hR (by tb_start) (by ktr_room) ?_
  cases hany : rows.any (·.isNone)
  case true =>
    nest_room
    have e2 : isLet rows cols fx sg hky = false := by unfold isLet; rw [if_pos hany]
    rw [e2] at h
    exact h _ _ (by tb_start)
  case false =>
  obtain ⟨rs, rfl⟩ := all_some hany
  have hR2 : DatAll nw rvs (rs.map colD) := by rw [List.map_map] at hR; exact hR
  have ho2 : ∀ x ∈ rs, PyData.strOk x.c = true := fun x hx => hro x (List.mem_map_of_mem hx)
  have hp2 : ∀ x ∈ rs, -1 ≤ x.p := fun x hx => hrp x (List.mem_map_of_mem hx)
  cases sg
  · repeat' (first | ((with_reducible refine' Go.forZip ?a0 ?a1 ?a2 ?a3 ?a4 ?a5 ?a6 ?a7 ?_); (case a0 => decide +kernel); (case a1 => k_is); (case a2 => boot_fast); (case a3 | a4 => intro x9; exact rfl); (case a5 => tb_rel); (case a6 | a7 => tb_start)) | kp_flats | ((with_reducible change Go _ _ (call (.ref 1188) _) _ _ _ _); (refine Go.lled (by tb_start) (by (refine' DatAll.mono ?da ?db; (case db => with_reducible assumption); (case da => ((show Sub _ _); tb_start)))) (by tb_start) (by (refine' DatAll.mono ?da ?db; (case db => with_reducible assumption); (case da => ((show Sub _ _); tb_start)))) (by with_reducible assumption) (by with_reducible assumption) (by tb_start) (by ktr_room) (by ktr_room) ?_); intro r1' vs1' k1' nw1' t1' s1' h1' l1' D1') | ((with_reducible change Go _ _ (call (.ref 1193) _) _ _ _ _); (refine Go.lahead (by tb_start) (by (refine' DatAll.mono ?da ?db; (case db => with_reducible assumption); (case da => ((show Sub _ _); tb_start)))) (by with_reducible assumption) (by tb_start) (by ktr_room) (by ktr_room) ?_); intro r2' vs2' k2' nw2' t2' s2' h2' D2'))
    all_goals (
      have qL := DatAll.length D1'
      have qA := DatAll.length D2'
      rw [List.length_map] at qL qA)
    · rename decide _ = true => z1
      have e9 : ledOf fx rs = [] := List.eq_nil_of_length_eq_zero (by rw [← qL]; exact of_decide_eq_true z1)
      rw [isLet_some, let_led e9] at h
      exact h _ _ (by tb_start)
    · rename decide _ = true => z2
      rename decide _ = false => z1
      have e9 : ledOf fx rs ≠ [] := fun e => of_decide_eq_false z1 (by rw [qL, e]; rfl)
      have e10 : aheadOf hky cols = [] := List.eq_nil_of_length_eq_zero (by rw [← qA]; exact of_decide_eq_true z2)
      rw [isLet_some, let_ah e9 e10] at h
      exact h _ _ (by tb_start)
    · rename decide (vs1'.length = 0) = false => z1
      rename decide (vs2'.length = 0) = false => z2
      have e9 : ledOf fx rs ≠ [] := fun e => of_decide_eq_false z1 (by rw [qL, e]; rfl)
      have e10 : aheadOf hky cols ≠ [] := fun e => of_decide_eq_false z2 (by rw [qA, e]; rfl)
      rw [isLet_some, let_ok e9 e10] at h
      have lp := LetP.of D1' D2' e9 e10
      have hpl : ∀ x ∈ ledOf fx rs, -1 ≤ x.p := fun x hx => hp2 x (List.mem_filter.mp hx).1
      have hpa : ∀ x ∈ aheadOf hky cols, -1 ≤ x.p := fun x hx => hcp x (ahead_sub hx)
      generalize ledOf fx rs = led at *
      generalize aheadOf hky cols = ah at *
      refine FoZ.mk (fun i m' nw' => Sub nw2' nw' ∧ okAll hky (turn0 led ah) (led.take i) ah = true ∧ m' (Str.ofString "led") = some (.ref r1') ∧ m' (Str.ofString "ahead") = some (.ref r2') ∧ m' (Str.ofString "has_key") = some (.bool hky)) ⟨by tb_start, by cases ah <;> rfl, by tb_start, by tb_start, by tb_start⟩ (fun _ _ _ q => ⟨q.1 _ (s2' _ h1'), q.1 _ h2'⟩) ?turn ?done
      case turn =>
        intro c2 i u v m1 nw3 t3 d2 u2 G2 cl2 fs2 hu hv ⟨hs, hok, g1, g2, g3⟩
        obtain ⟨r, a1, n1, p1, c1, hr9, rfl, mm1⟩ := lp.at1 i u hu
        obtain ⟨c, a2, n2, p2, c2, hc9, rfl, mm2⟩ := lp.at2 i v hv
        obtain ⟨v0, hz1⟩ := lp.z1
        obtain ⟨w0, hz2⟩ := lp.z2
        obtain ⟨r0, a3, n3, p3, c3, hr0, rfl, mm3⟩ := lp.at1 0 v0 hz1
        obtain ⟨c0, a4, n4, p4, c4, hc0, rfl, mm4⟩ := lp.at2 0 w0 hz2
        have ht0 := turn0_at hr0 hc0
        have hp9 := hpl r (List.mem_of_getElem? hr9)
        have hp8 := hpa c (List.mem_of_getElem? hc9)
        have mm1 := hs _ (s2' _ mm1)
        have mm2 := hs _ mm2
        have mm3 := hs _ (s2' _ mm3)
        have mm4 := hs _ mm4
        have hz1 : vs1'[((0 : Int)).toNat]? = some (.ref a3) := hz1
        have hz2 : vs2'[((0 : Int)).toNat]? = some (.ref a4) := hz2
        have h1' := hs _ (s2' _ h1')
        have h2' := hs _ h2'
        have hB : okB hky (turn0 led ah) r c = (((r.p == -1 || hky && r.p == 1) && (c.p == -1 || hky && c.p == 1) || (r.p == c.p && r.c == c.c)) && ((r.d == c.d) == (r0.d == c0.d))) := by unfold okB; rw [ht0, isRow_eq hp9, isRow_eq hp8]
        repeat' (first | kp_flats | ((with_reducible change Go _ _ (call (.ref 1183) _) _ _ _ _); (refine Go.lrid (by ktr_room) ?_); intro t'))
        all_goals (try (refine Go.nePair (by tb_start) (by tb_start) (by ktr_room) ?_; nest_room))
        all_goals first
          | (rw [okAll_no hr9 hc9 (by rw [hB]; first | exact lt_n1 (by assumption) | exact lt_n2 (by assumption) (by assumption) | exact lt_n3 (by assumption) (by assumption))] at h; exact h _ _ (by tb_start))
          | exact ⟨by tb_start, by rw [okAll_take hr9 hc9, hok, hB]; first | exact lt_j1 (by assumption) (by assumption) (by assumption) | exact lt_j2 (by assumption) (by assumption), by tb_start, by tb_start, by tb_start⟩
          | exact absurd (show (r.p == -1 || hky && r.p == 1) = false by assumption) (by rename (!(r.p == -1 || hky && r.p == 1)) = false => q; rw [Bool.not_eq_false'] at q; rw [q]; exact Bool.noConfusion)
      case done =>
        intro m1 nw3 t3 ⟨hs, hok, _⟩
        rw [qL, qA, okAll_min] at hok
        rw [hok] at h
        nest_room
        exact h _ _ (by tb_start)
  · repeat' (first | ((with_reducible refine' Go.forZip ?a0 ?a1 ?a2 ?a3 ?a4 ?a5 ?a6 ?a7 ?_); (case a0 => decide +kernel); (case a1 => k_is); (case a2 => boot_fast); (case a3 | a4 => intro x9; exact rfl); (case a5 => tb_rel); (case a6 | a7 => tb_start)) | kp_flats | ((with_reducible change Go _ _ (call (.ref 1188) _) _ _ _ _); (refine Go.lled (by tb_start) (by (refine' DatAll.mono ?da ?db; (case db => with_reducible assumption); (case da => ((show Sub _ _); tb_start)))) (by tb_start) (by (refine' DatAll.mono ?da ?db; (case db => with_reducible assumption); (case da => ((show Sub _ _); tb_start)))) (by with_reducible assumption) (by with_reducible assumption) (by tb_start) (by ktr_room) (by ktr_room) ?_); intro r1' vs1' k1' nw1' t1' s1' h1' l1' D1') | ((with_reducible change Go _ _ (call (.ref 1193) _) _ _ _ _); (refine Go.lahead (by tb_start) (by (refine' DatAll.mono ?da ?db; (case db => with_reducible assumption); (case da => ((show Sub _ _); tb_start)))) (by with_reducible assumption) (by tb_start) (by ktr_room) (by ktr_room) ?_); intro r2' vs2' k2' nw2' t2' s2' h2' D2'))
    rw [isLet_some, let_sg] at h
    exact h _ _ (by tb_start)
end
end
section
theorem Ins.upC {a b : List (Addr × Obj)} {x C : Addr} {f : Str → Option Value} (h : Ins a x C f) (hs : SubC a b) : Ins b x C f := by
  obtain ⟨dx, es, n, k, h1, h2, h3⟩ := h
  exact ⟨dx, es, n, k, hs _ h1 (fun _ h => by cases h), hs _ h2 (fun _ h => by cases h), h3⟩
theorem NameIs.upC {a b : List (Addr × Obj)} {x : Addr} {num pl : Int} {c : Str} (h : NameIs a x num pl c) (hs : SubC a b) : NameIs b x num pl c := by
  obtain ⟨fs, t1, t2, t3, h1, h2⟩ := h
  exact ⟨fs, t1, t2, t3, h1.upC hs, h2⟩
theorem ExprIs.upC {a b : List (Addr × Obj)} {x : Addr} {e : Option (Int × Int × Str)} (h : ExprIs a x e) (hs : SubC a b) : ExprIs b x e := by
  match e, h with
  | none, ⟨f, h⟩ => exact ⟨f, h.imp (fun h => h.upC hs) fun h => h.upC hs⟩
  | some (num, pl, c), ⟨h1, h2, h⟩ => exact ⟨h1, h2, h.imp (fun h => h.upC hs) fun ⟨f, y, w, t, c0, a, b, c, d, e⟩ => ⟨f, y, w, t, c0, a.upC hs, b, c, d.upC hs, e⟩⟩
theorem TermIs.upC {a b : List (Addr × Obj)} {v : Value} {t : Tm} (h : TermIs a v t) (hs : SubC a b) : TermIs b v t := by
  obtain ⟨x, g, h1, h2, h3, h4, h5⟩ := h
  exact ⟨x, g, h1, h2.upC hs, h3, h4, h5.upC hs⟩
theorem LeftIs.upC {a b : List (Addr × Obj)} {v : Value} {t : Tm} (h : LeftIs a v t) (hs : SubC a b) : LeftIs b v t := by
  obtain ⟨x, n, h1, h2, h3⟩ := h
  exact ⟨x, n, h1, hs _ h2 (fun _ h => by cases h), h3.upC hs⟩
theorem TRIs.upC {a b : List (Addr × Obj)} {v : Value} {t : Tm} (h : TRIs a v t) (hs : SubC a b) : TRIs b v t := by
  obtain ⟨r, x, n, rv, h1, h2, h3, h4⟩ := h
  exact ⟨r, x, n, rv, h1, hs _ h2 (fun _ h => by cases h), h3.upC hs, row_upC h4 hs⟩
theorem cols_upC {a b : List (Addr × Obj)} (hs : SubC a b) {cols : List Col} {vs : List Value} (h : DatAll a vs (cols.map colD)) : DatAll b vs (cols.map colD) := by
  induction cols generalizing vs with
  | nil => cases h; exact .nil
  | cons c r ih =>
    cases h with
    | cons h1 h2 =>
      obtain ⟨x, n, tp, tc, rfl, hm⟩ := col_inv h1
      exact .cons (col_mk (hs _ hm (fun _ h => by cases h))) (ih h2)
theorem fixs_upC {a b : List (Addr × Obj)} (hs : SubC a b) {fx : List (Int × Str)} {vs : List Value} (h : DatAll a vs (fx.map fixD)) : DatAll b vs (fx.map fixD) := by
  induction fx generalizing vs with
  | nil => cases h; exact .nil
  | cons c r ih =>
    cases h with
    | cons h1 h2 =>
      obtain ⟨x, n, tp, tc, rfl, hm⟩ := fix_inv h1
      exact .cons (fix_mk (hs _ hm (fun _ h => by cases h))) (ih h2)
theorem PathIs.upC {nw nw' : List (Addr × Obj)} {x : Addr} {d : PathD} (h : PathIs nw x d) (hs : SubC nw nw') : PathIs nw' x d := by
  obtain ⟨f, t, li, eq, evs, ek, ix, fi, cl, cvs, ck, h1, h2, h3, h4, h5, h6, h7, h8⟩ := h
  exact ⟨f, t, li, eq, evs, ek, ix, fi, cl, cvs, ck, h1.upC hs, h2, h3, h4, h5, hs _ h6 (fun _ h => by cases h), h7, fun q => have ⟨a, b, c, d, e⟩ := h8 q; ⟨a, b.upC hs, c, hs _ d (fun _ h => by cases h), cols_upC hs e⟩⟩
theorem All2.snoc {P : Value → Tm → Prop} {vs : List Value} {ts : List Tm} {v : Value} {t : Tm} (h : All2 P vs ts) (h2 : P v t) : All2 P (vs ++ [v]) (ts ++ [t]) := by
  refine ⟨by simp [h.1], fun i x y hx hy => ?_⟩
  by_cases hi : i < vs.length
  · rw [List.getElem?_append_left hi] at hx
    rw [List.getElem?_append_left (by rw [← h.1]; exact hi)] at hy
    exact h.2 i x y hx hy
  · rw [List.getElem?_append_right (by kpr_short)] at hx
    rw [List.getElem?_append_right (by rw [← h.1]; omega), ← h.1] at hy
    cases hj : i - vs.length with
    | zero => rw [hj] at hx hy; cases hx; cases hy; exact h2
    | succ j => rw [hj] at hx; simp at hx
theorem All2.nil_ {P : Value → Tm → Prop} : All2 P [] [] := ⟨rfl, fun i v t h => by simp at h⟩
theorem SubC.rf {a : Led} : SubC a a := fun _ h _ => h
theorem SubC.tS {a b e : Led} (k : Sub b e) (h : SubC a b) : SubC a e := fun p hp hc => k p (h p hp hc)
theorem SubC.tC {a b e : Led} {d : Addr} {o : Obj} {u : Option Value} (k : Keep d o b e) (hd : o.data = .cell u) (h : SubC a b) : SubC a e := fun p hp hc => k p (h p hp hc) (.inr fun q => hc u (q ▸ hd))
theorem rows_upC {a b : Led} (hs : SubC a b) {rs : List (Option Row)} {vs : List Value} (h : DatAll a vs (rs.map rowD)) : DatAll b vs (rs.map rowD) := by
  induction rs generalizing vs with
  | nil => cases h; exact .nil
  | cons c r ih =>
    cases h with
    | cons h1 h2 => exact .cons (row_upC h1 hs) (ih h2)
theorem rows_take {nw : Led} {ys : List Value} {ts : List Tm} {i : Nat} (h : DatAll nw ys ((ts.map srow).map rowD)) : DatAll nw (ys.take ((0 : Int) + (i : Int)).toNat) (((ts.take i).map srow).map rowD) := by
  rw [show ((0 : Int) + (i : Int)).toNat = i by omega, List.map_take, List.map_take]
  exact datAll_take i h
theorem fin_a9 {n : Nat} (h : decide (n ≠ 0) = true) : true = (false == decide (([] : List Value).length ≠ 0) && false == decide (((([] : List Value).length : Nat) : Int) ≥ (n : Int))) := by
  have q := of_decide_eq_true h
  have e : ¬ ((0 : Int) ≥ (n : Int)) := by omega
  simp
  omega
theorem fin_b9 {n : Nat} (h : decide (n ≠ 0) = false) : true = (false == decide (([] : List Value).length ≠ 0) && false == decide (n ≠ 0)) := by
  rw [h]; rfl
theorem fin_c9 {p : Bool} {a b : Int} : true = (p == p && decide (a ≤ b) == decide (b ≥ a)) := by simp
theorem rows_led9 {a b : Led} {ys2 : List Value} {ts : List Tm} {d : PathD} {hk : Bool} {n : Nat} {bo : Option Bool × Bool} {tk : List Row} (f : LvlF ts d hk n bo tk) (h : DatAll a ys2 ((ts.map srow).map rowD)) (hs : SubC a b) : DatAll b (ys2.take (n : Int).toNat) (tk.map colD) := by
  have q := datAll_take n (rows_upC hs h)
  rw [← List.map_take, ← List.map_take, f.rows, List.map_map] at q
  exact q
theorem subC_mem {a b : Led} {x : Addr} {o : Obj} (h : SubC a b) (ht : (tag o == 2) = false) (hm : (x, o) ∈ a) : (x, o) ∈ b := h _ hm fun v e => by
  rw [show tag o = 2 from by unfold tag; rw [show o.data = .cell v from e]] at ht
  cases ht
theorem subC_off' {a b : Led} {d : Addr} (h : SubC a b) (hn : ∀ p ∈ a, p.1 ≠ d) : SubC a (off d b) := fun p hp hc => off_mem (h p hp hc) (hn p hp)
theorem SubC.trans {a b e : Led} (h : SubC a b) (h2 : SubC b e) : SubC a e := fun p hp hc => h2 p (h p hp hc) hc
theorem subC_off {a b e : Led} {d : Addr} (h1 : SubC a b) (l : Abv b d) (h2 : SubC b e) : SubC a (off d e) := fun p hp hc => off_mem (h2 p (h1 p hp hc) hc) (Nat.ne_of_lt (l p (h1 p hp hc)))
theorem ne_add {L i j : Nat} (h : (i == j) = false) : ¬ @Eq Nat (L + i) (L + j) := fun e => by
  have : i = j := Nat.add_left_cancel e
  simp [this] at h
theorem All2.to' {P Q : Value → Tm → Prop} {vs : List Value} {ts : List Tm} (h : All2 P vs ts) (hs : ∀ v t, P v t → Q v t) : All2 Q vs ts := ⟨h.1, fun i v t a b => hs v t (h.2 i v t a b)⟩
section
variable {sc : Scope} {c : Cx} {m : Lc} {nw : Led} {t t' : Nat}
theorem Go.maxL {l : Addr} {vs : List Value} {ns : List Int} {kk : Nat} {R : Value → Lc → Led → Nat → Prop} (hm : (l, listOf vs.toArray kk) ∈ nw) (hi : IntsAre vs ns) (hne : 0 < ns.length) (h : ∀ (M : Int) u t', M ∈ ns → (∀ a, a ∈ ns → a ≤ M) → R (.int M u) m nw t') : Go sc c (call (.builtin "max") [.ref l]) m nw t R := by
  intro s Q hk ht F I k
  obtain ⟨g, hG, N, hne9⟩ := I
  exact max_list_N (A := c.A sc) rfl F N (PySem.IsL.isList (n := kk) (N _ (mr hm)).1) hi hne fun h' M t9 tk F' N' h1 h2 => k _ _ _ _ _ F' ⟨g, hG, N', hne9⟩ (h M t9 tk h1 h2)
theorem Go.right {src so cl tb : Addr} {n : Nat} {scols : List (Str × Str × Str)} {cvs : List Value} {ck : Nat} {cols : List Col} {hky : Bool} {R : Value → Lc → Led → Nat → Prop}
    (hG : c.G = SrcG src n) (hs : SrcIs nw so 4 scols (.ref tb)) (htb : TabIs nw tb hky) (hsl : scols.length = 3)
    (hs1 : ∀ x ∈ scols, x.2.2.cps.size ≠ 0 ∧ x.2.2.cps.size ≤ 64 ∧ PyData.strOk x.2.2 = true)
    (hc : (cl, listOf cvs.toArray ck) ∈ nw) (hC : DatAll nw cvs (cols.map colD)) (hcz : cols.length ≤ 4) (hco : ∀ x ∈ cols, PyData.strOk x.c = true) (hcp : ∀ x ∈ cols, -1 ≤ x.p) (hdp : c.dp + 20 < recursionLimit) (hun : c.un + 2000 < cLine)
    (h : ∀ nw' t', Sub nw nw' → R (.bool true) m nw' t') : Go sc c (call (.ref 1205) [.ref src, .bool hky, .ref so, .ref cl]) m nw t R := by
  ((with_reducible refine' Go.enterC ?a0 ?a1 ?a2 ?a3 ?a4 ?a5 ?a6 ?a7 ?a8 ?_); (case a0 | a1 => k_is); (case a2 => ktr_room); (case a3 => intro s9 X9; k_sizes); (case a4 => exact rfl); (case a5 => decide); (case a6 | a7 | a8 => exact rfl); intro c1 L1 m0 nw0 t0 hd1 hu1 hG1 hf1 hc1 hm0 s0 a0 hC0)
  obtain ⟨o1, ho1, hd1⟩ := hC0 (Str.ofString "source") (L1 + 1) (mt (mt (mt (mt (mt (mt (mt mh)))))))
  obtain ⟨o2, ho2, hd2⟩ := hC0 (Str.ofString "has_key") (L1 + 2) (mt (mt (mt (mt (mt (mt mh))))))
  obtain ⟨o3, ho3, hd3⟩ := hC0 (Str.ofString "one") (L1 + 3) (mt (mt (mt (mt (mt mh)))))
  obtain ⟨o4, ho4, hd4⟩ := hC0 (Str.ofString "path") (L1 + 4) (mt (mt (mt (mt mh))))
  obtain ⟨o5, ho5, hd5⟩ := hC0 (Str.ofString "terms") (L1 + 5) (mt (mt (mt mh)))
  obtain ⟨o6, ho6, hd6⟩ := hC0 (Str.ofString "rows") (L1 + 6) (mt (mt mh))
  obtain ⟨o7, ho7, hd7⟩ := hC0 (Str.ofString "many") (L1 + 7) (mt mh)
  obtain ⟨o8, ho8, hd8⟩ := hC0 (Str.ofString "walk") (L1 + 8) mh
  have hd1 : o1.data = .cell (some (.ref src)) := hd1
  have hd2 : o2.data = .cell (some (.bool hky)) := hd2
  have hd3 : o3.data = .cell (some (.ref so)) := hd3
  have hd4 : o4.data = .cell none := hd4
  have hd5 : o5.data = .cell none := hd5
  have hd6 : o6.data = .cell none := hd6
  have hd7 : o7.data = .cell none := hd7
  have hd8 : o8.data = .cell none := hd8
  have g1 : m0 (Str.ofString "columns") = some (.ref cl) := by rw [hm0]; rfl
  have hl1 : c1.cl.lookup (Str.ofString "source") = some (L1 + 1) := by rw [hc1]; rfl
  have hl2 : c1.cl.lookup (Str.ofString "has_key") = some (L1 + 2) := by rw [hc1]; rfl
  have hl3 : c1.cl.lookup (Str.ofString "one") = some (L1 + 3) := by rw [hc1]; rfl
  have hl4 : c1.cl.lookup (Str.ofString "path") = some (L1 + 4) := by rw [hc1]; rfl
  have hl5 : c1.cl.lookup (Str.ofString "terms") = some (L1 + 5) := by rw [hc1]; rfl
  have hl6 : c1.cl.lookup (Str.ofString "rows") = some (L1 + 6) := by rw [hc1]; rfl
  have hl7 : c1.cl.lookup (Str.ofString "many") = some (L1 + 7) := by rw [hc1]; rfl
  have hl8 : c1.cl.lookup (Str.ofString "walk") = some (L1 + 8) := by rw [hc1]; rfl
  have ab4 : Abv nw (L1 + 4) := abv_up a0 (Nat.lt_add_of_pos_right (by decide))
  have ab5 : Abv nw (L1 + 5) := abv_up a0 (Nat.lt_add_of_pos_right (by decide))
  have ab6 : Abv nw (L1 + 6) := abv_up a0 (Nat.lt_add_of_pos_right (by decide))
  have ab7 : Abv nw (L1 + 7) := abv_up a0 (Nat.lt_add_of_pos_right (by decide))
  have ab8 : Abv nw (L1 + 8) := abv_up a0 (Nat.lt_add_of_pos_right (by decide))
  clear hm0 hC0
  have hG2 := hG1.trans hG
  nest_room
  refine Go.lpath hG2 (hs.to s0) (by tb_start) (datAll_to hC s0) hcz (by ktr_room) (by ktr_room) ?_
  intro pt d nw1 t1 s1 P1 G1
  nest_room
  rename_i dd uu tt q1 q2 r9 nw2 t9 a9 b9 c9 h9 s9 l9
  refine CoG.mk (ItS.rangeN (a := 0) (n := dd.toNat) (by kpr_short) (by decide) (by kpr_short)) (by kpr_short) (sub1 h9) (fun i ys nw' => Sub nw2 nw' ∧ ∃ ts : List Tm, ts.length = i ∧ All2 (TRIs nw') ys ts ∧ ∀ t ∈ ts, TOk t ∧ TPl t) ⟨Sub.rf, [], rfl, All2.nil_, fun _ h => nomatch h⟩ (fun _ _ _ q => sub1 (q.1 _ h9)) ?turn ?done
  case turn =>
    rintro c2 i v ys mC nw3 t3 d2 u2 G2 l2 hi ⟨tt, rfl⟩ ⟨hs3, ts, hl, hT, hO⟩
    have G3 := G2.trans hG2
    nest_room
    refine term1_g G3 (hs.to (show Sub nw nw3 by tb_start)) hsl hs1 (by ktr_room) (by ktr_room) ?_
    intro r nw4 t4 T s4 T4 O4 P4
    nest_room
    exact ⟨by tb_start, ts ++ [T], by simp [hl], (hT.to' fun v t h => h.upC (SubC.tS s4 SubC.rf)).snoc T4, fun t ht => by
      rcases List.mem_append.mp ht with ht | ht
      · exact hO t ht
      · rw [List.mem_singleton.mp ht]; exact ⟨O4, P4⟩⟩
  case done =>
    intro D k ys nw3 nw4 t3 ⟨hs3, ts, hl, hT, hO⟩ hm hs4 hA hne
    nest_room
    rename_i nw5 o5' p5 p5d p5k
    have hlt6 : ys.length ≤ 1000 := by rw [hT.1]; omega
    refine CoG.mk (ItS.listT (vs := ys)) hlt6 (sub1 (by tb_start)) (fun i ys2 nw' => Sub nw5 nw' ∧ DatAll nw' ys2 (((ts.take i).map srow).map rowD)) ⟨Sub.rf, .nil⟩ (fun _ _ _ q => sub1 (q.1 _ (by tb_start))) ?turn ?done
    case turn =>
      intro c2 i v ys2 mC nw6 t6 d2 u2 G2 l2 hi hv ⟨hs6, hD⟩
      obtain ⟨t, ht⟩ : ∃ t, ts[i]? = some t := ⟨_, List.getElem?_eq_getElem (by rw [← hT.1]; exact hi)⟩
      obtain ⟨r, a9, n9, rv, rfl, hm9, hTm, hrv⟩ := hT.2 i v t hv ht
      nest_room
      refine ⟨by tb_start, ?_⟩
      rw [take_at ht, List.map_append, List.map_append]
      exact datAll_snoc hD (row_upC hrv (by tb_start))
    case done =>
      intro D2 k2 ys2 nw6 nw7 t6 ⟨hs6, hD2⟩ hm2 hs7 hA2 hne2
      have e5 : ts.take ys.length = ts := List.take_of_length_le (by rw [hT.1]; exact Nat.le_refl _)
      rw [e5] at hD2
      have hlen2 := DatAll.length hD2
      rw [List.length_map, List.length_map] at hlen2
      nest_room
      rename_i nw8 o8' p8 p8d p8k r10 nw10 t10 ta10 tb10 tc10 h10 s10 l10
      obtain ⟨px, pcl, pfl, pcvs, pfvs, pck, pfk, pn9, y1, y2, y3, y4, y5, y6⟩ := P1
      have hlt9 : ys2.length < 10 := by omega
      refine CoG.mk (ItS.rangeN (a := 0) (n := ys2.length + 1) (by kpr_short) (by decide) (by kpr_short)) (by kpr_short) (sub1 h10) (fun i ys3 nw' => Sub nw10 nw' ∧ IntsAre ys3 (((List.range i).filter fun (j : Nat) => isLet ((ts.take j).map srow) (ordOf d true) (fixOf d) d.single hky).map fun (j : Nat) => (j : Int))) ⟨Sub.rf, .nil⟩ (fun _ _ _ q => sub1 (q.1 _ h10)) ?turn ?done
      case turn =>
        rintro c2 i v ys3 mC nw11 t11 d2 u2 G2 l2 hi ⟨tt, rfl⟩ ⟨hs11, hM⟩
        have hi2 : (0 : Int) + (i : Int) ≤ ys2.length := by omega
        have lk4 : c2.cl.lookup (Str.ofString "path") = some (L1 + 4) := by rw [l2]; rfl
        have lk2 : c2.cl.lookup (Str.ofString "has_key") = some (L1 + 2) := by rw [l2]; rfl
        have lk6 : c2.cl.lookup (Str.ofString "rows") = some (L1 + 6) := by rw [l2]; rfl
        nest_room
        refine Go.islet (rows := (ts.take i).map srow) (cols := ordOf d true) (fx := fixOf d) (sg := d.single) (by tb_start) (rows_upC (by tb_start) (rows_take hD2)) (by tb_start) (by tb_start) (cols_upC (by tb_start) y4) (by tb_start) (fixs_upC (by tb_start) y6) (fun r h => (rows_ok hO r h).1) (fun r h => (rows_ok hO r h).2) (ord_oks G1 hco) (ord_pls G1 hcp) (fix_oks G1 hco) (by simp only [List.length_take]; omega) (by have := ord_len (d := d) (hasT := true) G1.2.1; omega) (by ktr_room) (by ktr_room) ?_
        intro nw12 t12 s12
        cases hb : isLet ((ts.take i).map srow) (ordOf d true) (fixOf d) d.single hky
        · nest_room
          exact ⟨by tb_start, ints_same hM hb⟩
        · nest_room
          refine ⟨by tb_start, ?_⟩
          rw [Int.zero_add]
          exact ints_snoc hM hb
      case done =>
        intro D3 k3 ys3 nw11 nw12 t11 ⟨hs11, hM⟩ hm3 hs12 hA3 hne3
        rw [hlen2] at hM
        obtain ⟨n9, bo, hq⟩ : ∃ n9 bo, Mine.lvl 4 hky (fixOf d) ts (ordOf d true) none d.single = (n9, bo) := ⟨_, _, rfl⟩
        obtain ⟨tk9, f9⟩ := lvl_f (ts := ts) (d := d) (hk := hky)
        rw [hq] at f9
        dsimp only at f9
        nest_room
        refine Go.maxL (by tb_start) hM (lvl_ne f9) ?_
        intro M uM tM hM1 hM2
        obtain rfl := lvl_mx f9 hM1 hM2
        nest_room
        rename_i nw13 o9' p9 p9d p9k
        refine CoG.mk (ItS.listT (vs := ys)) hlt6 (sub1 (by tb_start)) (fun i ys4 nw' => Sub nw13 nw' ∧ All2 (TermIs nw') ys4 (ts.take i)) ⟨Sub.rf, All2.nil_⟩ (fun _ _ _ q => sub1 (q.1 _ (by tb_start))) ?turn ?done
        case turn =>
          intro c2 i v ys4 mC nw14 t14 d2 u2 G2 l2 hi hv ⟨hs14, hD⟩
          obtain ⟨t, ht⟩ : ∃ t, ts[i]? = some t := ⟨_, List.getElem?_eq_getElem (by rw [← hT.1]; exact hi)⟩
          obtain ⟨r, a9, n9', rv, rfl, hm9, hTm, hrv⟩ := hT.2 i v t hv ht
          nest_room
          refine ⟨by tb_start, ?_⟩
          rw [take_at ht]
          exact hD.snoc (hTm.upC (by tb_start))
        case done =>
          intro D4 k4 ys4 nw14 nw15 t14 ⟨hs14, hT4⟩ hm4 hs15 hA4 hne4
          rw [e5] at hT4
          nest_room
          refine Go.owk (ts := ts) (by tb_start) (hT4.to' fun v t h => h.upC (SubC.tS hs15 SubC.rf)) (by rw [hT4.1]; omega) (by ktr_room) (by ktr_room) ?_
          intro x lf lvs kf f8 n0 nw16 t16 w1 w2 wo wa wI wl wt wm wA
          obtain ⟨dx, es, nn8, b8, i1, i2, i3⟩ := id wI
          nest_room
          rename_i nw17 o10' p10 p10d p10k
          obtain ⟨d', pd1, pd2, pd3, pd4, pd5, pd6, pd7⟩ := path_fix y2 G1 hco
          have sA : SubC n0 (off lf nw17) := subC_off' (by tb_start) wo
          have sB : Sub nw (off lf nw17) := off_abv (by tb_start) (by tb_start)
          refine Go.lvl (lf := lf) (lvs := lvs) (num := 4) (d := d') (hasT := true) (hky := hky) (f := f8) (ts := ts) (by tb_start) off_sub off_ne (wI.upC sA) wl (wA.to' fun v t h => h.upC sA) (by rw [wA.1]; omega) (hs.to sB) (pd1.upC (subC_off (by tb_start) wa (by tb_start))) ⟨tb, rfl, htb.to sB⟩ pd3 pd2 pd7 (fun t ht => (hO t ht).1) (by ktr_room) (by ktr_room) ?_
          intro r8 k8 n8 nw18 t18 hK hS hm8 hr8
          rw [pd4, pd5, pd6, hq] at hm8 hr8
          dsimp only at hm8 hr8
          obtain ⟨bw, hbw⟩ : ∃ bw, bw = bo.1.getD false := ⟨_, rfl⟩
          obtain ⟨io, hio⟩ : ∃ io, io = bo.2 := ⟨_, rfl⟩
          rw [← hbw, ← hio] at hr8
          have z2 : (L1 + 2, o2) ∈ nw18 := hK _ (by tb_start) (Nat.ne_of_lt (wa (L1 + 2, o2) (by tb_start)))
          have z4 := hK (L1 + 4, _) (by tb_start) (Nat.ne_of_lt (wa (L1 + 4, _) (by tb_start)))
          have z5 := hK (L1 + 5, o5') (by tb_start) (Nat.ne_of_lt (wa (L1 + 5, o5') (by tb_start)))
          have z6 := hK (L1 + 6, o8') (by tb_start) (Nat.ne_of_lt (wa (L1 + 6, o8') (by tb_start)))
          have z7 := hK (L1 + 7, o9') (by tb_start) (Nat.ne_of_lt (wa (L1 + 7, o9') (by tb_start)))
          have z8 := hK (L1 + 8, o10') (by tb_start) (Nat.ne_of_lt (wa (L1 + 8, o8) (by tb_start)))
          have sD : SubC nw15 nw18 := SubC.tS hS (subC_off SubC.rf wa (by tb_start))
          have s1 : SubC nw1 nw18 := SubC.trans (show SubC nw1 nw15 by tb_start) sD
          have s3 : SubC nw3 nw18 := SubC.trans (show SubC nw3 nw15 by tb_start) sD
          have s6 : SubC nw6 nw18 := SubC.trans (show SubC nw6 nw15 by tb_start) sD
          have s0' : Sub nw nw18 := Sub.tr hS sB
          have sE : SubC n0 nw18 := SubC.tS hS sA
          have s4 : SubC nw4 nw18 := SubC.trans (show SubC nw4 nw15 by tb_start) sD
          have s7 : SubC nw7 nw18 := SubC.trans (show SubC nw7 nw15 by tb_start) sD
          have ey1 := subC_mem s1 rfl y1
          have ey3 := subC_mem s1 rfl y3
          have ey5 := subC_mem s1 rfl y5
          have eD1 := subC_mem s4 rfl hm
          have eD2 := subC_mem s7 rfl hm2
          have ei1 := subC_mem sE rfl i1
          have ei2 := subC_mem sE rfl i2
          clear hK hS sA sB s4 s7 sD hs14 hs15 hs11 hs12 hs6 hs7 hs4 s10 w1 w2 p5k p8k p9k p10k p5 p8 p9 p10 ho1 ho2 ho3 ho4 ho5 ho6 ho7 ho8 h9 h10 hm hm2 hm3 hm4 y1 y3 y5 wm i1 i2 hne hne2 hne3 hne4 hA hA2 hA3 hA4
          have hv8 : (lvs.drop n9).length = ts.length - n9 := by rw [List.length_drop, wA.1]
          have hn8 := f9.le
          have hv7 : (lvs.drop n9).length ≤ 1000 := by omega
          have hv5 : ((lvs.drop n9).length : Int) = (ys2.length : Int) - (n9 : Int) := by omega
          have hv6 : (((lvs.drop n9).length : Int) != (ys2.length : Int) - (n9 : Int)) = false := by rw [hv5]; simp
          nest_room
          · rename (_ != _) = true => q
            rw [hv6] at q
            cases q
          rename_i r20 nw20 t20 ta20 tb20 tc20 h20 s20 l20
          refine CoG.mk (ItS.rangeN (a := (n9 : Int)) (n := ts.length - n9) (by kpr_short) (by kpr_short) (by kpr_short)) (by kpr_short) (sub1 h20) (fun _ ys5 nw' => Sub nw20 nw' ∧ ys5 = []) ⟨Sub.rf, rfl⟩ (fun _ _ _ q => sub1 (q.1 _ h20)) ?turn ?done
          case turn =>
            rintro c2 i v ys5 mC nw21 t21 d2 u2 G2 l2 hi ⟨tt, rfl⟩ ⟨hs21, rfl⟩
            have hi5 : n9 + i < ts.length := by omega
            obtain ⟨t, ht⟩ : ∃ t, ts[n9 + i]? = some t := ⟨_, List.getElem?_eq_getElem hi5⟩
            obtain ⟨v5, hv5⟩ : ∃ v, lvs[n9 + i]? = some v := ⟨_, List.getElem?_eq_getElem (by rw [wA.1]; exact hi5)⟩
            obtain ⟨T5, nT, rfl, hT5, hE5⟩ := wA.2 _ _ _ hv5 ht
            obtain ⟨v6, hv6⟩ : ∃ v, ys[n9 + i]? = some v := ⟨_, List.getElem?_eq_getElem (by rw [hT.1]; exact hi5)⟩
            obtain ⟨r6, a6, n6, rv6, rfl, hm6, ⟨a5, g6, ha6, hI6, hg6, hg7, hx6⟩, hrv6⟩ := hT.2 _ _ _ hv6 ht
            obtain rfl := Value.ref.inj ha6
            obtain ⟨dI, eI, kI, bI, I1, I2, I3⟩ := hI6
            have hv3 : (lvs.drop n9)[((n9 : Int) + (i : Int) - (n9 : Int)).toNat]? = some (.ref T5) := by rw [show ((n9 : Int) + i - n9).toNat = i by omega, List.getElem?_drop]; exact hv5
            have hv4 : ys[((n9 : Int) + (i : Int)).toNat]? = some (.ref r6) := by rw [show ((n9 : Int) + i).toNat = n9 + i by omega]; exact hv6
            have lk8 : c2.cl.lookup (Str.ofString "walk") = some (L1 + 8) := by rw [l2]; rfl
            have lk7 : c2.cl.lookup (Str.ofString "many") = some (L1 + 7) := by rw [l2]; rfl
            have lk5 : c2.cl.lookup (Str.ofString "terms") = some (L1 + 5) := by rw [l2]; rfl
            have m1 : (T5, tupO [.ref t.x, .bool t.f] nT) ∈ nw18 := subC_mem sE rfl hT5
            have m2 : (a6, instObj 526 dI) ∈ nw18 := subC_mem s3 rfl I1
            have m3 : (dI, dictOf eI kI) ∈ nw18 := subC_mem s3 rfl I2
            have m4 : (r6, tupO [.ref a6, rv6] n6) ∈ nw18 := subC_mem s3 rfl hm6
            nest_room
            exact ⟨by tb_start, rfl⟩
          case done =>
            rintro D5 k5 ys5 nw21 nw22 t21 ⟨hs21, rfl⟩ hm5 hs22 hA5 hne5
            nest_room
            have hl9 : ((n9 : Int)).toNat ≤ ys2.length := by omega
            refine Go.lled (cols := tk9) (fx := fixOf d) (by tb_start) (rows_led9 f9 hD2 (SubC.tS (show Sub nw18 _ by tb_start) s6)) (by tb_start) (fixs_upC (SubC.tS (show Sub nw18 _ by tb_start) s1) y6) (fix_oks G1 hco) (tk_ok f9 hO) (by simp only [List.length_take]; omega) (by ktr_room) (by ktr_room) ?_
            intro rL vsL kL nw23 t23 sL mL aL dL
            nest_room
            refine Go.lahead (cols := ordOf d true) (hky := hky) (by tb_start) (cols_upC (SubC.tS (show Sub nw18 _ by tb_start) s1) y4) (ord_pls G1 hcp) (by have := ord_len (d := d) (hasT := true) G1.2.1; omega) (by ktr_room) (by ktr_room) ?_
            intro rA vsA kA nw24 t24 sA' mA dA
            have y1' : (pt, tupO [.ref px, .ref pcl, .ref pfl, .bool d.single] pn9) ∈ nw24 := by tb_start
            have mL' : (rL, listOf vsL.toArray kL) ∈ nw24 := by tb_start
            have dL' := DatAll.mono sA' dL
            cases hsg : d.single with
            | true =>
              rw [hsg] at y1'
              have q := f9.one hsg
              obtain rfl : bw = false := by rw [hbw, q]; rfl
              obtain rfl : io = true := by rw [hio, q]
              nest_room
              exact h _ _ (by tb_start)
            | false =>
              rw [hsg] at y1'
              obtain ⟨g1, g2, g3⟩ := f9.many hsg
              have g4 := led_len f9 (fixOf d)
              have g5 := Nat.le_trans (ahead_len (hk := hky)) (ord_len (d := d) (hasT := true) G1.2.1)
              replace dL' : DatAll nw24 vsL ((ledOf (fixOf d) tk9).map colD) := dL'
              generalize hlo : ledOf (fixOf d) tk9 = lo at dL' g1 g2 g3 g4
              generalize hah : aheadOf hky (ordOf d true) = ah at dA g1 g2 g3 g5
              have g6 := DatAll.length dL'
              have g7 := DatAll.length dA
              rw [List.length_map] at g6 g7
              have g8 : vsL.length ≤ 1000 := by omega
              have g9 : vsA.length ≤ 1000 := by omega
              cases lo with
              | nil =>
                obtain rfl := dat_nil dL'
                obtain rfl : bw = false := by rw [hbw, g1]; rfl
                obtain rfl : io = false := by rw [hio, g2]; cases ah <;> simp
                nest_room
                · refine rq (h _ _ (by tb_start)) (fin_a9 ?_)
                  assumption
                · refine rq (h _ _ (by tb_start)) (fin_b9 ?_)
                  assumption
              | cons r0 lr =>
                cases ah with
                | nil => exact absurd rfl (g3 (by simp))
                | cons c0 cr =>
                  obtain ⟨v0, vr, rfl, hv0, hvr⟩ := dat_cons dA
                  obtain ⟨v1, vl, rfl, hv1, hvl⟩ := dat_cons dL'
                  obtain ⟨a0', n0', tp0, tc0, rfl, hm0⟩ := col_inv hv0
                  obtain ⟨a1', n1', tp1, tc1, rfl, hm1⟩ := col_inv hv1
                  have g10 : bw = (r0.d != c0.d) := by
                    rw [hbw, g1, if_neg (by simp)]
                    simp [turn0, bne]
                  have g11 : io = decide (((Value.ref a0' :: vr).length : Int) ≤ (Value.ref a1' :: vl).length) := by
                    rw [hio, g2, g6, g7]
                    simp
                  obtain rfl := g10
                  obtain rfl := g11
                  nest_room
                  exact rq (h _ _ (by tb_start)) fin_c9
end
end
section
section
variable {sc : Scope} {c : Cx} {m : Lc} {nw : Led} {t t' : Nat}
theorem Go.fasc {tx : Str} {tt : Tok} {R : Value → Lc → Led → Nat → Prop} (hx : tx.cps.size ≤ 64) (hdp : c.dp + 4 < recursionLimit) (hun : c.un + 300 < cLine) (h : ∀ u nw' t', Sub nw nw' → R (.str (foldS tx) u) m nw' t') :
    Go sc c (call (.ref 890) [.str tx tt]) m nw t R := by
  mem_news
  nest_room
  refine FoG.mk ItS.strN (fun _ h => nomatch h) (fun i m' nw' => Sub nw nw' ∧ ∃ (l9 : Addr) (ys : List (Str × Tok)) (k : Nat), (l9, listOf (strValues ys).toArray k) ∈ nw' ∧ Abv nw l9 ∧ m' (Str.ofString "signs") = some (.ref l9) ∧ ys.map (·.1) = (tx.cps.toList.take i).map fun c => ⟨#[lowc c]⟩) ⟨by tb_start, _, [], 0, (show (_, listOf #[] 0) ∈ _ from by tb_start), by tb_start, by tb_start, rfl⟩ (fun _ _ _ _ _ h => nomatch h) ?turn ?done
  case turn =>
    intro c2 i u m1 nw1 t1 d2 u2 G2 cl2 f2 hi hu ⟨hs, l9, ys, k, hl, ha, g1, hys⟩
    obtain ⟨ch, tc, hc, rfl⟩ := hu
    have hlen : (strValues ys).length ≤ 1000 := by
      have q := congrArg List.length hys
      have q2 : (strValues ys).length = ys.length := by simp [strValues]
      simp only [List.length_map, List.length_take, Array.length_toList] at q
      omega
    nest_room
    refine Go.chain3 (by decide) (by tb_rel) (by tb_rel) CmpS.le (by tb_rel) CmpS.le (fun q1 => ?_) (fun q1 => ?_)
    all_goals nest_room
    · refine Go.ordB ?_
      have q1 : ¬ ch < 65 := fun q => by simp [ltA.mpr q] at q1
      rename (!decide _) = true => q2
      have q2 : ¬ 90 < ch := fun q => by simp [gtZ.mpr q] at q2
      nest_room
      refine Go.chrB (by omega) (by omega) ?_
      nest_room
      exact ⟨by tb_start, _, ys ++ [(_, _)], _, (by rw [← val_snoc]; tb_start), by tb_start, by tb_start, low_snoc hc (by unfold lowc; rw [if_pos (by kpr_short)]; omega) hys⟩
    · rename (!decide _) = false => q2
      have q2 : 90 < ch := gtZ.mp (by simpa using q2)
      exact ⟨by tb_start, _, ys ++ [(_, _)], _, (by rw [← val_snoc]; tb_start), by tb_start, by tb_start, low_snoc hc (by unfold lowc; rw [if_neg (by kpr_short)]) hys⟩
    · have q1 : ch < 65 := ltA.mp (by simpa using q1)
      exact ⟨by tb_start, _, ys ++ [(_, _)], _, (by rw [← val_snoc]; tb_start), by tb_start, by tb_start, low_snoc hc (by unfold lowc; rw [if_neg (by kpr_short)]) hys⟩
  case done =>
    intro m1 nw1 t1 ⟨hs, l9, ys, k, hl, ha, g1, hys⟩
    nest_room
    with_reducible refine' Go.strM ?q1 gm_join ?q2 ?q3 ?_
    case q2 => exact rfl
    case q1 | q3 => tb_rel
    refine Go.join hl hys (joinOk_low (by rw [List.length_take]; simp; omega)) fun u1 u2 => ?_
    nest_room
    rw [List.take_of_length_le (by simp)]
    exact h _ _ _ hs
theorem ItS.tupN {x : Str} {px : Pos} {l : Addr} {vs : List Value} {kl : Nat} : ItS (.Name x px) (.ref l) [(l, tupO vs kl)] vs.length (fun i v => vs[i]? = some v) := ItS.tup fun _ _ _ _ _ _ _ _ h => go_name h
theorem Go.aff {v : Value} {af : Str} {R : Value → Lc → Led → Nat → Prop} (hty : TyIs v af) (hdp : c.dp + 6 < recursionLimit) (hun : c.un + 400 < cLine) (h : ∀ u nw' t', Sub nw nw' → R (.str af u) m nw' t') : Go sc c (call (.ref 897) [v]) m nw t R := by
  cases hty
  case n =>
    mem_news
    nest_room
    exact h _ _ _ (by tb_start)
  case t k =>
    mem_news
    repeat' (first | kp_flats | ((with_reducible change Go _ _ (call (.ref 890) _) _ _ _ _); (refine Go.fasc (by decide +kernel) (by ktr_room) (by ktr_room) ?_); intro u1' nw1' t1' s1'))
    with_reducible refine' Go.strM ?q1 gm_strip ?q2 ?q3 ?_
    case q2 => exact rfl
    case q1 | q3 => tb_rel
    refine Go.strip (y := Str.ofString "TEXT") (by decide +kernel) (by rw [sizeLine_eq]; decide +kernel) fun u1 u2 => ?_
    repeat' (first | kp_flats | ((with_reducible change Go _ _ (call (.ref 890) _) _ _ _ _); (refine Go.fasc (by decide +kernel) (by ktr_room) (by ktr_room) ?_); intro u1' nw1' t1' s1'))
    refine Go.inStr ?_
    nest_room
    refine FoG.mk ItS.tupN (sub1 (by tb_start)) (fun i m' nw' => Sub _ nw' ∧ i ≤ 2 ∧ ∃ t, m' (Str.ofString "name") = some (.str (foldS (Str.ofString "TEXT")) t)) ⟨Sub.rf, Nat.zero_le _, _, by tb_start⟩ (fun _ _ _ q => sub1 (q.1 _ (by tb_start))) ?turn ?done
    case turn =>
      intro c2 i u m1 nw1 t1 d2 u2 G2 cl2 f2 hi hu ⟨hs, hi2, tn, g1⟩
      match i, hu, hi2 with
      | 0, hu, _ =>
        obtain rfl := Option.some.inj hu
        nest_room
        refine Go.inStr ?_
        nest_room
        exact ⟨by tb_start, by decide, _, by tb_start⟩
      | 1, hu, _ =>
        obtain rfl := Option.some.inj hu
        nest_room
        refine Go.inStr ?_
        nest_room
        exact ⟨by tb_start, by decide, _, by tb_start⟩
      | 2, hu, _ =>
        obtain rfl := Option.some.inj hu
        nest_room
        refine Go.inStr ?_
        nest_room
        exact h _ _ _ (by tb_start)
    case done =>
      intro m1 nw1 t1 q
      exact absurd q.2.1 (by show ¬ (3 ≤ 2); decide)
  case i k =>
    mem_news
    repeat' (first | kp_flats | ((with_reducible change Go _ _ (call (.ref 890) _) _ _ _ _); (refine Go.fasc (by decide +kernel) (by ktr_room) (by ktr_room) ?_); intro u1' nw1' t1' s1'))
    with_reducible refine' Go.strM ?q1 gm_strip ?q2 ?q3 ?_
    case q2 => exact rfl
    case q1 | q3 => tb_rel
    refine Go.strip (y := Str.ofString "INTEGER") (by decide +kernel) (by rw [sizeLine_eq]; decide +kernel) fun u1 u2 => ?_
    repeat' (first | kp_flats | ((with_reducible change Go _ _ (call (.ref 890) _) _ _ _ _); (refine Go.fasc (by decide +kernel) (by ktr_room) (by ktr_room) ?_); intro u1' nw1' t1' s1'))
    refine Go.inStr ?_
    nest_room
    exact h _ _ _ (by tb_start)
theorem Go.column {nm : Str} {tn : Tok} {tyv : Value} {af : Str} {R : Value → Lc → Led → Nat → Prop} (hty : TyIs tyv af) (hdp : c.dp + 8 < recursionLimit) (hun : c.un + 600 < cLine)
    (h : ∀ x dx es n g ta tc nw' t', (x, instObj 917 dx) ∈ nw' → (dx, dictOf es n) ∈ nw' → Flds es g 20 → g (Str.ofString "name") = some (.str nm tn) → g (Str.ofString "type_name") = some tyv → g (Str.ofString "affinity") = some (.str af ta) → g (Str.ofString "collation") = some (.str (Str.ofString "binary") tc) → Sub nw nw' → Abv nw dx → @LT.lt Nat _ dx x → R (.ref x) m nw' t') :
    Go sc c (call (.ref 917) [.str nm tn, tyv]) m nw t R := by
  have hv := hty.handed
  kc_close
  repeat' (first | kp_flats | ((with_reducible change Go _ _ (call (.ref 897) _) _ _ _ _); (refine Go.aff (by with_reducible assumption) (by ktr_room) (by ktr_room) ?_); intro u1' nw1' t1' s1'))
  exact h _ _ _ _ _ _ _ _ _ (by tb_start) (by tb_start) (flds_le (by with_reducible assumption) (by decide)) (by tb_start) (by tb_start) (by tb_start) (by tb_start) (by tb_start) (by tb_start) (by tb_start)
end
end
section
section
variable {sc : Scope} {c : Cx} {m : Lc} {nw : Led} {t t' : Nat}
theorem Go.ninTab {a : Addr} {s1 s2 s3 z : Str} {t1 t2 t3 t9 : Tok} {n : Nat} {sl : Array (Option Value)} {R : Value → Lc → Led → Nat → Prop} (e : (gk.heap_1 c.w.params).lookup a = some { cls := .type "tuple", dict := none, data := .seq #[.str s1 t1, .str s2 t2, .str s3 t3] n, slots := sl }) (h : R (.bool (!(s1 == z || s2 == z || s3 == z))) m nw t) : Go sc c (compareOp .NotIn (.str z t9) (.ref a)) m nw t R := by
  intro s Q hk ht F I k
  subst ht
  exact nin_tab c.X F e (k _ s.heap _ _ _ F I h)
theorem Go.inTab {a : Addr} {s1 s2 s3 z : Str} {t1 t2 t3 t9 : Tok} {n : Nat} {sl : Array (Option Value)} {R : Value → Lc → Led → Nat → Prop} (e : (gk.heap_1 c.w.params).lookup a = some { cls := .type "tuple", dict := none, data := .seq #[.str s1 t1, .str s2 t2, .str s3 t3] n, slots := sl }) (h : R (.bool (s1 == z || s2 == z || s3 == z)) m nw t) : Go sc c (compareOp .In (.str z t9) (.ref a)) m nw t R := by
  intro s Q hk ht F I k
  subst ht
  exact in_tab c.X F e (k _ s.heap _ _ _ F I h)
theorem Go.chk {x : Str} {t9 : Tok} {R : Value → Lc → Led → Nat → Prop} (hx : x.cps.size ≤ 64) (hw : foldS x = Str.ofString "binary" ∨ foldS x = Str.ofString "nocase" ∨ foldS x = Str.ofString "rtrim") (hdp : c.dp + 4 < recursionLimit) (hun : c.un + 300 < cLine) (h : ∀ u nw' t', Sub nw nw' → R (.str (foldS x) u) m nw' t') : Go sc c (call (.ref 1003) [.str x t9]) m nw t R := by
  have hin : (Str.ofString "binary" == foldS x || Str.ofString "nocase" == foldS x || Str.ofString "rtrim" == foldS x) = true := by
    rcases hw with h | h | h <;> simp [h]
  mem_news
  repeat' (first | kp_flats | ((with_reducible change Go _ _ (call (.ref 585) _) _ _ _ _); (refine Go.fold (by first | with_reducible assumption | decide +kernel) (by ktr_room) (by ktr_room) ?_); intro u' nw' t' s'))
  refine Go.ninTab (by k_is) ?_
  rw [hin]
  repeat' (first | kp_flats | ((with_reducible change Go _ _ (call (.ref 585) _) _ _ _ _); (refine Go.fold (by first | with_reducible assumption | decide +kernel) (by ktr_room) (by ktr_room) ?_); intro u' nw' t' s'))
  exact h _ _ _ (by tb_start)
theorem Go.plc {tb cl9 : Addr} {ft : Str → Option Value} {cvs : List Value} {ck : Nat} {nm : Str} {t9 : Tok} {R : Value → Lc → Led → Nat → Prop} (hI : Ins nw tb 992 ft) (hc : ft (Str.ofString "columns") = some (.ref cl9)) (hl : (cl9, listOf cvs.toArray ck) ∈ nw) (hz : cvs.length ≤ 16) (hN : ∀ v ∈ cvs, ColNe nw (foldS nm) v) (hn : nm.cps.size ≤ 64)
    (hr : (Str.ofString "rowid" == foldS nm || Str.ofString "oid" == foldS nm || Str.ofString "_rowid_" == foldS nm) = false) (hdp : c.dp + 4 < recursionLimit) (hun : c.un + 300 < cLine) (h : ∀ nw' t', Sub nw nw' → R .none m nw' t') : Go sc c (call (.ref 975) [.ref tb, .str nm t9]) m nw t R := by
  mem_news
  repeat' (first | kp_flats | ((with_reducible change Go _ _ (call (.ref 585) _) _ _ _ _); (refine Go.fold (by first | with_reducible assumption | decide +kernel) (by ktr_room) (by ktr_room) ?_); intro u' nw' t' s'))
  refine FoG.mk (ItS.rangeN (a := 0) (n := cvs.length) (Int.zero_add _).symm (by decide) (by kpr_short)) (sub1 (by tb_start)) (fun i m' nw' => Sub _ nw' ∧ m' (Str.ofString "self") = some (.ref tb) ∧ ∃ t, m' (Str.ofString "wanted") = some (.str (foldS nm) t)) ⟨Sub.rf, by tb_start, _, by tb_start⟩ (fun _ _ _ q => sub1 (q.1 _ (by tb_start))) ?turn ?done
  case turn =>
    rintro c2 i u m1 nw1 t1 d2 u2 G2 cl2 f2 hi ⟨tt, rfl⟩ ⟨hs, g1, tw, g2⟩
    obtain ⟨v, hv⟩ : ∃ v, cvs[i]? = some v := ⟨_, List.getElem?_eq_getElem hi⟩
    obtain ⟨co, g, y, ty, rfl, hI9, hg9, hy9, hne9⟩ := hN v (List.mem_of_getElem? hv)
    have hv2 : cvs[((0 : Int) + (i : Int)).toNat]? = some (.ref co) := by rw [Int.zero_add]; exact hv
    repeat' (first | kp_flats | ((with_reducible change Go _ _ (call (.ref 585) _) _ _ _ _); (refine Go.fold (by first | with_reducible assumption | decide +kernel) (by ktr_room) (by ktr_room) ?_); intro u' nw' t' s'))
    · rename (_ == _) = true => q
      rw [hne9] at q
      cases q
    · exact ⟨by tb_start, by tb_start, _, by tb_start⟩
  case done =>
    intro m1 nw1 t1 ⟨hs, g1, tw, g2⟩
    nest_room
    refine Go.inTab (by k_is) ?_
    rw [hr]
    nest_room
    exact h _ _ (by tb_start)
theorem Go.nnTup {a : Addr} {i : Int} {t9 : Tok} {n : Nat} {R : Value → Lc → Led → Nat → Prop} (hm : (a, tupO [.none, .int i t9] n) ∈ nw) (h : R (.bool false) m nw t) : Go sc c (compareOp .NotIn .none (.ref a)) m nw t R := by
  intro s Q hk ht F I k
  have I9 := I
  obtain ⟨g, hG, N, hne⟩ := I
  subst ht
  exact nn_tup (KStb.news_of N fun p hp => mr hp) hm (k _ s.heap _ _ _ F I9 h)
theorem Go.acol {mk told tb cl9 : Addr} {fm ft fc : Str → Option Value} {cvs : List Value} {ck : Nat} {nm : Str} {tn : Tok} {tyv : Value} {af : Str} {R : Value → Lc → Led → Nat → Prop} (hl : (cl9, listOf cvs.toArray ck) ∈ nw) (hM : Ins nw mk 1117 fm) (m1 : fm (Str.ofString "table") = some (.ref tb)) (hT : Ins nw tb 992 ft) (t1 : ft (Str.ofString "columns") = some (.ref cl9)) (t2 : ft (Str.ofString "place_of") = none) (hz : cvs.length ≤ 16)
    (hD : Ins nw told 552 fc) (c1 : fc (Str.ofString "name") = some (.str nm tn)) (c2 : fc (Str.ofString "type_name") = some tyv) (hty : TyIs tyv af) (hN : ∀ v ∈ cvs, ColNe nw (foldS nm) v) (hn : nm.cps.size ≤ 64)
    (hr : (Str.ofString "rowid" == foldS nm || Str.ofString "oid" == foldS nm || Str.ofString "_rowid_" == foldS nm) = false) (hdp : c.dp + 12 < recursionLimit) (hun : c.un + 1200 < cLine)
    (h : ∀ co dc es n g ta tc k nw' t', (co, instObj 917 dc) ∈ nw' → (dc, dictOf es n) ∈ nw' → (cl9, listOf (cvs ++ [Value.ref co]).toArray k) ∈ nw' → Flds es g 20 → g (Str.ofString "name") = some (.str nm tn) → g (Str.ofString "type_name") = some tyv → g (Str.ofString "affinity") = some (.str af ta) → g (Str.ofString "collation") = some (.str (Str.ofString "binary") tc) → KeepT cl9 3 nw nw' → Abv nw dc → @LT.lt Nat _ dc co → R .none m nw' t') :
    Go sc c (call (.ref 1066) [.ref mk, .ref told]) m nw t R := by
  have hv := hty.handed
  have hz2 : cvs.length ≤ 1000 := by omega
  have hz4 : ((cvs.length : Int) == 2000) = false := by
    have hz3 : ¬ ((cvs.length : Int) = 2000) := by omega
    simpa using hz3
  obtain ⟨td, tes, tn9, tb9, u1, u2, u3⟩ := id hT
  mem_news
  repeat' (first | kp_flats | ((with_reducible change Go _ _ (call (.ref 975) _) _ _ _ _); (refine Go.plc (by tb_start) (by tb_start) (by tb_start) (by with_reducible assumption) (by exact fun v hv => (hN v hv).mono (by (show Sub _ _); tb_start)) (by with_reducible assumption) (by with_reducible assumption) (by ktr_room) (by ktr_room) ?_); intro nw1' t1' s1') | ((with_reducible change Go _ _ (call (.ref 917) _) _ _ _ _); (refine Go.column (by with_reducible assumption) (by ktr_room) (by ktr_room) ?_); intro co' dc' es2' n2' g2' ta' tc' nw2' t2' p1' p2' p3' p4' p5' p6' p7' s2' l1' l2'))
  · rename (_ == _) = true => q
    rw [hz4] at q
    cases q
  · refine Go.nnTup (by tb_start) ?_
    repeat' (first | kp_flats | ((with_reducible change Go _ _ (call (.ref 975) _) _ _ _ _); (refine Go.plc (by tb_start) (by tb_start) (by tb_start) (by with_reducible assumption) (by exact fun v hv => (hN v hv).mono (by (show Sub _ _); tb_start)) (by with_reducible assumption) (by with_reducible assumption) (by ktr_room) (by ktr_room) ?_); intro nw1' t1' s1') | ((with_reducible change Go _ _ (call (.ref 917) _) _ _ _ _); (refine Go.column (by with_reducible assumption) (by ktr_room) (by ktr_room) ?_); intro co' dc' es2' n2' g2' ta' tc' nw2' t2' p1' p2' p3' p4' p5' p6' p7' s2' l1' l2'))
    exact h _ _ _ _ _ _ _ _ _ _ (by tb_start) (by tb_start) (by tb_start) p3' p4' p5' p6' p7' (by tb_start) (by tb_start) l2'
end
end
section
section
variable {sc : Scope} {c : Cx} {m : Lc} {nw : Led} {t t' : Nat}
theorem Go.accC {mk tb cl9 co dc : Addr} {fm ft q : Str → Option Value} {cvs : List Value} {ck : Nat} {pl : Int} {tp tw td : Tok} {w9 : Str} {es : List DictEntry} {n b : Nat} {R : Value → Lc → Led → Nat → Prop}
    (hM : Ins nw mk 1117 fm) (m1 : fm (Str.ofString "table") = some (.ref tb)) (hT : Ins nw tb 992 ft) (t1 : ft (Str.ofString "columns") = some (.ref cl9)) (hl : (cl9, listOf cvs.toArray ck) ∈ nw)
    (h0 : 0 ≤ pl) (h1 : pl < 1000) (hv : cvs[pl.toNat]? = some (.ref co)) (hi : (co, instObj 917 dc) ∈ nw) (hd : (dc, dictOf es n) ∈ nw) (f : Flds es q b) (hb : b ≤ 100)
    (hx : w9.cps.size ≤ 64) (hw : foldS w9 = Str.ofString "binary" ∨ foldS w9 = Str.ofString "nocase" ∨ foldS w9 = Str.ofString "rtrim") (hdp : c.dp + 12 < recursionLimit) (hun : c.un + 1200 < cLine)
    (h : ∀ es' n' f' u nw' t', (dc, dictOf es' n') ∈ nw' → Flds es' f' (b + 1) → Up1 q f' (Str.ofString "collation") (.str (foldS w9) u) → KeepT dc 1 nw nw' → R .none m nw' t') :
    Go sc c (call (.ref 1073) [.ref mk, .int pl tp, .str (Str.ofString "collate") tw, .str w9 td]) m nw t R := by
  mem_news
  repeat' (first | kp_flats | ((with_reducible change Go _ _ (call (.ref 1003) _) _ _ _ _); (refine Go.chk (by with_reducible assumption) (by with_reducible assumption) (by ktr_room) (by ktr_room) ?_); intro u1' nw1' t1' s1'))
  exact h _ _ _ _ _ _ (by tb_start) (by tb_start) (by with_reducible assumption) (by tb_start)
theorem Go.isint {co : Addr} {q : Str → Option Value} {tq : Tok} {R : Value → Lc → Led → Nat → Prop} (hi : Ins nw co 917 q) (q1 : q (Str.ofString "type_name") = some (.str (Str.ofString "INTEGER") tq)) (hdp : c.dp + 4 < recursionLimit) (hun : c.un + 400 < cLine) (h : ∀ nw' t', Sub nw nw' → R (.bool true) m nw' t') : Go sc c (call (.ref 1031) [.ref co]) m nw t R := by
  mem_news
  repeat' (first | kp_flats | ((with_reducible change Go _ _ (call (.ref 585) _) _ _ _ _); (refine Go.fold (by first | with_reducible assumption | decide +kernel) (by ktr_room) (by ktr_room) ?_); intro u' nw' t' s'))
  all_goals exact h _ _ (by tb_start)
theorem Go.addP {mk mkd tb tbd D p0 : Addr} {fm ft : Str → Option Value} {kD kp : Nat} {tp : Tok} {dv : Value} {em et : List DictEntry} {nm nt bm bt : Nat} {R : Value → Lc → Led → Nat → Prop}
    (hm : (mk, instObj 1117 mkd) ∈ nw) (hmd : (mkd, dictOf em nm) ∈ nw) (fM : Flds em fm bm) (ht : (tb, instObj 992 tbd) ∈ nw) (htd : (tbd, dictOf et nt) ∈ nw) (fT : Flds et ft bt) (hne : tbd ≠ mkd) (m1 : fm (Str.ofString "table") = some (.ref tb)) (m2 : fm (Str.ofString "has_primary") = some (.bool false)) (hD : (D, listOf [Value.ref p0].toArray kD) ∈ nw) (hp : (p0, tupO [.int 1 tp, .none, dv] kp) ∈ nw)
    (hb1 : bt ≤ 100) (hb2 : bm ≤ 100) (hdp : c.dp + 4 < recursionLimit) (hun : c.un + 400 < cLine)
    (h : ∀ em' et' nm' nt' fm' f1 ft' v u nw1 nw' t', (mkd, dictOf em' nm') ∈ nw' → (tbd, dictOf et' nt') ∈ nw' → Flds em' fm' (bm + 1) → Flds et' ft' (bt + 1 + 1) → Up1 fm fm' (Str.ofString "has_primary") (.bool true) → Up1 ft f1 (Str.ofString "primary") v → Up1 f1 ft' (Str.ofString "rowid_place") (.int 1 u) → KeepT mkd 1 nw nw1 → KeepT tbd 1 nw1 nw' → R .none m nw' t') :
    Go sc c (call (.ref 1090) [.ref mk, .ref D, .bool true]) m nw t R := by
  have hne2 : mkd ≠ tbd := fun e => hne e.symm
  mem_news
  repeat' (first | kp_flats | ((with_reducible refine' Go.setAE ?a0 ?_); (case a0 => exact rfl)) | ((with_reducible refine' SetA.mk ?a0 ?a1 ?a2 ?a3 ?a4 ?a5 ?_); (case a0 => tb_rel); (case a1 | a2 | a3 | a4 => tb_start); (case a5 => kernel_rfl); intro nw' es' n' f' o' d' k' g' u'))
  refine CoG.mk (ItS.listT (vs := [Value.ref p0])) (Nat.le_of_ble_eq_true rfl) (sub1 (by tb_start)) (fun _ _ nw' => Sub _ nw') Sub.rf (fun _ _ _ q => sub1 (q _ (by tb_start))) ?turn ?done
  case turn =>
    intro c2 i u ys mC nw2 t2 d2 u2 G2 l2 hi hu hs
    obtain rfl := List.mem_singleton.mp (List.mem_of_getElem? hu)
    nest_room
    exact hs
  case done =>
    intro D9 k9 ys nw2 nw3 t2 hs hm9 hs3 hA hne9
    repeat' (first | kp_flats | ((with_reducible refine' Go.setAE ?a0 ?_); (case a0 => exact rfl)) | ((with_reducible refine' SetA.mk ?a0 ?a1 ?a2 ?a3 ?a4 ?a5 ?_); (case a0 => tb_rel); (case a1 | a2 | a3 | a4 => tb_start); (case a5 => kernel_rfl); intro nw' es' n' f' o' d' k' g' u'))
    exact h _ _ _ _ _ _ _ _ _ nw3 _ _ (by tb_start) (by tb_start) (by with_reducible assumption) (by with_reducible assumption) (by with_reducible assumption) (by with_reducible assumption) (by with_reducible assumption) (by tb_start) (by tb_start)
theorem Go.accP {mk mkd tb tbd cl9 co : Addr} {fm ft q : Str → Option Value} {cvs : List Value} {ck : Nat} {tp tw tq : Tok} {em et : List DictEntry} {nm nt bm bt : Nat} {R : Value → Lc → Led → Nat → Prop}
    (hm : (mk, instObj 1117 mkd) ∈ nw) (hmd : (mkd, dictOf em nm) ∈ nw) (fM : Flds em fm bm) (ht : (tb, instObj 992 tbd) ∈ nw) (htd : (tbd, dictOf et nt) ∈ nw) (fT : Flds et ft bt) (hne : tbd ≠ mkd) (m1 : fm (Str.ofString "table") = some (.ref tb)) (m2 : fm (Str.ofString "has_primary") = some (.bool false)) (m3 : fm (Str.ofString "add_primary") = none) (t1 : ft (Str.ofString "columns") = some (.ref cl9)) (hl : (cl9, listOf cvs.toArray ck) ∈ nw)
    (hv : cvs[(1 : Int).toNat]? = some (.ref co)) (hi : Ins nw co 917 q) (q1 : q (Str.ofString "type_name") = some (.str (Str.ofString "INTEGER") tq)) (hb1 : bt ≤ 100) (hb2 : bm ≤ 100) (hdp : c.dp + 12 < recursionLimit) (hun : c.un + 1200 < cLine)
    (h : ∀ em' et' nm' nt' fm' f1 ft' v u nw1 nw' t', (mkd, dictOf em' nm') ∈ nw' → (tbd, dictOf et' nt') ∈ nw' → Flds em' fm' (bm + 1) → Flds et' ft' (bt + 1 + 1) → Up1 fm fm' (Str.ofString "has_primary") (.bool true) → Up1 ft f1 (Str.ofString "primary") v → Up1 f1 ft' (Str.ofString "rowid_place") (.int 1 u) → KeepT mkd 1 nw nw1 → KeepT tbd 1 nw1 nw' → R .none m nw' t') :
    Go sc c (call (.ref 1073) [.ref mk, .int 1 tp, .str (Str.ofString "primary key") tw, .bool false]) m nw t R := by
  mem_news
  repeat' (first | kp_flats | ((with_reducible change Go _ _ (call (.ref 1003) _) _ _ _ _); (refine Go.chk (by with_reducible assumption) (by with_reducible assumption) (by ktr_room) (by ktr_room) ?_); intro u1' nw1' t1' s1') | ((with_reducible change Go _ _ (call (.ref 585) _) _ _ _ _); (refine Go.fold (by first | with_reducible assumption | decide +kernel) (by ktr_room) (by ktr_room) ?_); intro u' nw' t' s') | ((with_reducible change Go _ _ (call (.ref 1031) _) _ _ _ _); (refine Go.isint (by tb_start) (by with_reducible assumption) (by ktr_room) (by ktr_room) ?_); intro nw1' t1' s1'))
  refine Go.addP (by tb_start) (by tb_start) fM (by tb_start) (by tb_start) fT hne m1 m2 (by tb_start) (by tb_start) hb1 hb2 (by ktr_room) (by ktr_room) ?_
  intro em' et' nm' nt' fm' f1 ft' v u nw1 nw2 t2 z1 z2 z3 z4 z5 z6 z7 z8 z9
  nest_room
  exact h _ _ _ _ _ _ _ _ _ nw1 _ _ (by tb_start) (by tb_start) z3 z4 z5 z6 z7 (by tb_start) (by tb_start)
end
end
section
section
variable {sc : Scope} {c : Cx} {m : Lc} {nw : Led} {t t' : Nat}
theorem Go.rootat {mk rl : Addr} {fm : Str → Option Value} {k : Nat} {i : Int} {ti : Tok} {R : Value → Lc → Led → Nat → Prop} (hM : Ins nw mk 1117 fm) (h1 : fm (Str.ofString "roots") = some (.ref rl)) (hr : (rl, listOf ([] : List Value).toArray k) ∈ nw) (h0 : 0 ≤ i) (hdp : c.dp + 1 < recursionLimit) (hun : c.un + 100 < cLine) (h : ∀ u t', R (.int 0 u) m nw t') : Go sc c (call (.ref 1052) [.ref mk, .int i ti]) m nw t R := by
  have e9 : (decide (i < ((([] : List Value).length : Nat) : Int))) = false := decide_eq_false (by simp; exact h0)
  mem_news
  nest_room
  · rename decide _ = true => q
    rw [e9] at q
    cases q
  · exact h _ _
theorem Go.table {nm tx : Str} {tn tt u : Tok} {i : Int} {cl9 : Addr} {R : Value → Lc → Led → Nat → Prop} (hdp : c.dp + 2 < recursionLimit)
    (h : ∀ tb tbd ix ck et n2 ft k2 k3 nw' t', (tb, instObj 992 tbd) ∈ nw' → (tbd, dictOf et n2) ∈ nw' → Flds et ft 20 → ft (Str.ofString "name") = some (.str nm tn) → ft (Str.ofString "columns") = some (.ref cl9) → ft (Str.ofString "rowid_place") = some .none → ft (Str.ofString "indexes") = some (.ref ix) → ft (Str.ofString "checks") = some (.ref ck) → ft (Str.ofString "place_of") = none → (ix, listOf ([] : List Value).toArray k2) ∈ nw' → (ck, listOf ([] : List Value).toArray k3) ∈ nw' → Sub nw nw' → Abv nw tbd → @LT.lt Nat _ tbd tb → @LT.lt Nat _ tb ix → @LT.lt Nat _ ix ck → R (.ref tb) m nw' t') :
    Go sc c (call (.ref 992) [.str nm tn, .int i u, .ref cl9, .str tx tt]) m nw t R := by
  kc_close
  nest_room
  exact h _ _ _ _ _ _ _ _ _ _ _ (by tb_start) (by tb_start) (flds_le (by with_reducible assumption) (by decide)) (by tb_start) (by tb_start) (by tb_start) (by tb_start) (by tb_start) (by tb_start) (by tb_start) (by tb_start) (by tb_start) (by tb_start) (by tb_start) (by tb_start) (by tb_start)
theorem Go.tmk {st : Addr} {nm tx : Str} {tn tt : Tok} {g : Str → Option Value} {R : Value → Lc → Led → Nat → Prop} (hI : Ins nw st 578 g) (h1 : g (Str.ofString "name") = some (.str nm tn)) (h2 : g (Str.ofString "text") = some (.str tx tt)) (hdp : c.dp + 8 < recursionLimit) (hun : c.un + 600 < cLine)
    (h : ∀ mk mkd tb tbd cl9 ix ck em et n1 n2 fm ft k1 k2 k3 nw' t', (mk, instObj 1117 mkd) ∈ nw' → (mkd, dictOf em n1) ∈ nw' → Flds em fm 20 → (tb, instObj 992 tbd) ∈ nw' → (tbd, dictOf et n2) ∈ nw' → Flds et ft 20 → ft (Str.ofString "name") = some (.str nm tn) → ft (Str.ofString "columns") = some (.ref cl9) → ft (Str.ofString "rowid_place") = some .none → ft (Str.ofString "indexes") = some (.ref ix) → ft (Str.ofString "checks") = some (.ref ck) → fm (Str.ofString "statement") = some (.ref st) → fm (Str.ofString "table") = some (.ref tb) → fm (Str.ofString "has_primary") = some (.bool false) → ft (Str.ofString "place_of") = none → fm (Str.ofString "read") = none → fm (Str.ofString "settle") = none → fm (Str.ofString "add_column") = none → fm (Str.ofString "add_column_constraint") = none → fm (Str.ofString "add_primary") = none → (cl9, listOf ([] : List Value).toArray k1) ∈ nw' → (ix, listOf ([] : List Value).toArray k2) ∈ nw' → (ck, listOf ([] : List Value).toArray k3) ∈ nw' → Sub nw nw' → Abv nw mkd → @LT.lt Nat _ mkd mk → @LT.lt Nat _ mk cl9 → @LT.lt Nat _ cl9 tbd → @LT.lt Nat _ tbd tb → @LT.lt Nat _ tb ix → @LT.lt Nat _ ix ck → R (.ref mk) m nw' t') :
    Go sc c (call (.ref 1117) [.ref st, .none]) m nw t R := by
  kc_close
  repeat' (first | kp_flats | ((with_reducible change Go _ _ (call (.ref 1052) _) _ _ _ _); (refine Go.rootat (by tb_start) (by tb_start) (by tb_start) (by tb_start) (by ktr_room) (by ktr_room) ?_); intro u1' t1') | ((with_reducible change Go _ _ (call (.ref 992) _) _ _ _ _); (refine Go.table (by ktr_room) ?_); intro tb' tbd' ix' ck' et' n2' ft' k2' k3' nw1' t1' g1' g2' g3' g4' g5' s1' l1' l2' l3' l4' f1' f2' f3' f4' f5' f6'))
  exact h _ _ _ _ _ _ _ _ _ _ _ _ _ _ _ _ _ _ (by tb_start) (by tb_start) (flds_le (by with_reducible assumption) (by decide)) (by tb_start) (by tb_start) g3' (by tb_start) (by tb_start) (by tb_start) (by tb_start) (by tb_start) (by tb_start) (by tb_start) (by tb_start) (by tb_start) (by tb_start) (by tb_start) (by tb_start) (by tb_start) (by tb_start) (by tb_start) (by tb_start) (by tb_start) (by tb_start) (by tb_start) (by tb_start) (by tb_start) (by tb_start) (by tb_start) (by tb_start) (by tb_start)
end
end
section
theorem colNe_mk {nw : Led} {co : Addr} {g : Str → Option Value} {j i : Nat} {t : Tok} (h : i < 3) (hj : j < i) (hI : Ins nw co 917 g) (hg : g (Str.ofString "name") = some (.str (nmA j) t)) : ColNe nw (foldS (nmA i)) (.ref co) :=
  ⟨co, g, nmA j, t, rfl, hI, hg, nm_sz j, nm_ne h hj⟩
structure RdIs (nw : Led) (mk mkd tb tbd cl9 ix ck : Addr) (hky : Bool) (wa wb : Str) (c0 c1 c2 : Addr) (em et : List DictEntry) (nm nt kc : Nat) (fm ft q0 q1 q2 : Str → Option Value) : Prop where
  m1 : (mk, instObj 1117 mkd) ∈ nw
  m2 : (mkd, dictOf em nm) ∈ nw
  m3 : Flds em fm 100
  m4 : fm (Str.ofString "table") = some (.ref tb)
  m5 : fm (Str.ofString "settle") = none
  t1 : (tb, instObj 992 tbd) ∈ nw
  t2 : (tbd, dictOf et nt) ∈ nw
  t3 : Flds et ft 100
  t4 : ∃ t, ft (Str.ofString "name") = some (.str (Str.ofString "t") t)
  t5 : ft (Str.ofString "columns") = some (.ref cl9)
  t6 : ∃ t, ft (Str.ofString "rowid_place") = some (if hky = true then Value.int 1 t else Value.none)
  t7 : ft (Str.ofString "indexes") = some (.ref ix)
  l : (cl9, listOf [Value.ref c0, .ref c1, .ref c2].toArray kc) ∈ off tbd nw
  l2 : (ix, listOf ([] : List Value).toArray ck) ∈ nw
  i0 : Ins (off tbd nw) c0 917 q0
  i1 : Ins (off tbd nw) c1 917 q1
  i2 : Ins (off tbd nw) c2 917 q2
  n0 : ∃ t, q0 (Str.ofString "name") = some (.str (Str.ofString "a") t)
  n1 : ∃ t, q1 (Str.ofString "name") = some (.str (Str.ofString "b") t)
  n2 : ∃ t, q2 (Str.ofString "name") = some (.str (Str.ofString "c") t)
  f0 : ∃ t, q0 (Str.ofString "affinity") = some (.str (Str.ofString "text") t)
  f1 : ∃ t, q1 (Str.ofString "affinity") = some (.str (Str.ofString "integer") t)
  f2 : ∃ t, q2 (Str.ofString "affinity") = some (.str (Str.ofString "blob") t)
  o0 : ∃ t, q0 (Str.ofString "collation") = some (.str (foldS wa) t)
  o1 : ∃ t, q1 (Str.ofString "collation") = some (.str (Str.ofString "binary") t)
  o2 : ∃ t, q2 (Str.ofString "collation") = some (.str (foldS wb) t)
structure PkIs (n3 : Led) (st mkd tb tbd cl9 ix ck : Addr) (b : Bool) (em et : List DictEntry) (nm nt : Nat) (fm ft : Str → Option Value) (n4 nw : Led) : Prop where
  m2 : (mkd, dictOf em nm) ∈ nw
  m3 : Flds em fm (cond b 40 30)
  m4 : fm (Str.ofString "table") = some (.ref tb)
  m5 : fm (Str.ofString "settle") = none
  m6 : fm (Str.ofString "add_column_constraint") = none
  m8 : b = false → fm (Str.ofString "has_primary") = some (.bool false) ∧ fm (Str.ofString "add_primary") = none ∧ n3 = nw
  m9 : fm (Str.ofString "statement") = some (.ref st)
  t2 : (tbd, dictOf et nt) ∈ nw
  t3 : Flds et ft (cond b 40 30)
  t4 : ∃ t, ft (Str.ofString "name") = some (.str (Str.ofString "t") t)
  t5 : ft (Str.ofString "columns") = some (.ref cl9)
  t6 : ∃ t, ft (Str.ofString "rowid_place") = some (if b = true then Value.int 1 t else Value.none)
  t7 : ft (Str.ofString "indexes") = some (.ref ix)
  t8 : ft (Str.ofString "checks") = some (.ref ck)
  k1 : KeepT mkd 1 n3 n4
  k2 : KeepT tbd 1 n4 nw
section
variable {sc : Scope} {c : Cx} {m : Lc} {nw : Led} {t t' : Nat}
theorem Go.settle {mk mkd tb tbd ix ck : Addr} {em et : List DictEntry} {nm nt bt : Nat} {fm ft : Str → Option Value} {R : Value → Lc → Led → Nat → Prop}
    (m1 : (mk, instObj 1117 mkd) ∈ nw) (m2 : (mkd, dictOf em nm) ∈ nw) (m3 : Flds em fm 100) (m4 : fm (Str.ofString "table") = some (.ref tb)) (t1 : (tb, instObj 992 tbd) ∈ nw) (t2 : (tbd, dictOf et nt) ∈ nw) (t3 : Flds et ft bt) (hb : bt ≤ 100) (t7 : ft (Str.ofString "indexes") = some (.ref ix)) (l2 : (ix, listOf ([] : List Value).toArray ck) ∈ nw)
    (hdp : c.dp + 4 < recursionLimit) (hun : c.un + 400 < cLine)
    (h : ∀ et' nt' ft' v nw' t', (tbd, dictOf et' nt') ∈ nw' → Flds et' ft' (bt + 1) → Up1 ft ft' (Str.ofString "indexes") v → KeepT tbd 1 nw nw' → R .none m nw' t') :
    Go sc c (call (.ref 1102) [.ref mk]) m nw t R := by
  ((with_reducible refine' Go.enterC ?a0 ?a1 ?a2 ?a3 ?a4 ?a5 ?a6 ?a7 ?a8 ?_); (case a0 | a1 => k_is); (case a2 => ktr_room); (case a3 => intro s9 X9; k_sizes); (case a4 => exact rfl); (case a5 => decide); (case a6 | a7 | a8 => exact rfl); intro c1 L1 m0 nw0 t0 hd1 hu1 hG1 hf1 hc1 hm0 s0 a0 hC0)
  obtain ⟨o1, ho1, hd0⟩ := hC0 (Str.ofString "self") (L1 + 1) (.head _)
  have hd0 : o1.data = .cell (some (.ref mk)) := hd0
  clear hm0
  nest_room
  refine FoG.unR (n := ([] : List Value).length) (is := []) (by tb_start) (by decide) rfl ?_
  repeat' (first | kp_flats | ((with_reducible refine' UnL.nil ?a0 ?_); (case a0 => tb_start); intro t') | ((with_reducible refine' UnL.cons ?a0 ?_); (case a0 => tb_start); intro c2' t' d2' u2' G2' cl2' f2') | ((with_reducible refine' UnR.nil ?a0 ?_); (case a0 => tb_start); intro t') | ((with_reducible refine' UnR.cons ?a0 ?_); (case a0 => tb_start); intro c2' t' u' d2' u2' G2' cl2' f2') | ((with_reducible refine' Go.setAE ?a0 ?_); (case a0 => exact rfl)) | ((with_reducible refine' SetA.mk ?a0 ?a1 ?a2 ?a3 ?a4 ?a5 ?_); (case a0 => tb_rel); (case a1 | a2 | a3 | a4 => tb_start); (case a5 => kernel_rfl); intro nw' es' n' f' o' d' k' g' u'))
  exact h _ _ _ _ _ _ (by tb_start) (by with_reducible assumption) (by with_reducible assumption) (by tb_start)
set_option maxHeartbeats 2000000 in
theorem Go.read {n0 : Led} {mk mkd tb tbd cl9 ix ck st l l2 : Addr} {x k : Nat → Addr} {ty : Nat → Value} {g : Str → Option Value} {gs : Nat → Str → Option Value} {ts : Nat → Tok} {tn tt : Tok} {kl kl2 : Nat} {wa wb : Str} {hky : Bool} {kvs : List Value} {qa qb qc : Addr} {ma mb' mc za zb zc : Nat} {xa ya xb xc yc : Tok} {em et : List DictEntry} {n1 n2 k1 k2 k3 : Nat} {fm ft : Str → Option Value} {R : Value → Lc → Led → Nat → Prop}
    (hS : StIs n0 st l l2 x k ty g gs ts tn tt kl kl2) (hC : CoIs n0 k wa wb hky kvs qa qb qc ma mb' mc za zb zc xa ya xb xc yc) (hty1 : ∃ tq, ty 1 = .str (Str.ofString "INTEGER") tq) (hsa : wa.cps.size ≤ 64) (hsb : wb.cps.size ≤ 64) (hwa : foldS wa = Str.ofString "binary" ∨ foldS wa = Str.ofString "nocase" ∨ foldS wa = Str.ofString "rtrim") (hwb : foldS wb = Str.ofString "binary" ∨ foldS wb = Str.ofString "nocase" ∨ foldS wb = Str.ofString "rtrim")
    (o1 : (mk, instObj 1117 mkd) ∈ nw) (o2 : (mkd, dictOf em n1) ∈ nw) (fM : Flds em fm 20) (o3 : (tb, instObj 992 tbd) ∈ nw) (o4 : (tbd, dictOf et n2) ∈ nw) (fT : Flds et ft 20) (v1 : ft (Str.ofString "name") = some (.str (Str.ofString "t") tn)) (v2 : ft (Str.ofString "columns") = some (.ref cl9)) (v3 : ft (Str.ofString "rowid_place") = some .none) (v4 : ft (Str.ofString "indexes") = some (.ref ix)) (v5 : ft (Str.ofString "checks") = some (.ref ck)) (w1 : fm (Str.ofString "statement") = some (.ref st)) (w2 : fm (Str.ofString "table") = some (.ref tb)) (w3 : fm (Str.ofString "has_primary") = some (.bool false)) (r1 : ft (Str.ofString "place_of") = none) (r3 : fm (Str.ofString "settle") = none) (r4 : fm (Str.ofString "add_column") = none) (r5 : fm (Str.ofString "add_column_constraint") = none) (r6 : fm (Str.ofString "add_primary") = none)
    (e1 : (cl9, listOf ([] : List Value).toArray k1) ∈ nw) (e2 : (ix, listOf ([] : List Value).toArray k2) ∈ nw) (e3 : (ck, listOf ([] : List Value).toArray k3) ∈ nw) (s0 : Sub n0 nw) (a0 : Abv n0 mkd) (l1 : @LT.lt Nat _ mkd mk) (l3 : @LT.lt Nat _ mk cl9) (l4 : @LT.lt Nat _ cl9 tbd) (l5 : @LT.lt Nat _ tbd tb) (l6 : @LT.lt Nat _ tb ix) (l7 : @LT.lt Nat _ ix ck) (hdp : c.dp + 16 < recursionLimit) (hun : c.un + 1600 < cLine)
    (h : ∀ c0 c1 c2 em' et' nm nt kc fm' ft' q0 q1 q2 nw' t', RdIs nw' mk mkd tb tbd cl9 ix k2 hky wa wb c0 c1 c2 em' et' nm nt kc fm' ft' q0 q1 q2 → Sub n0 nw' → R (.ref tb) m nw' t') :
    Go sc c (call (.ref 1059) [.ref mk]) m nw t R := by
  obtain ⟨hSi, hSn, hSx, hSc, hSd, hSl, hSl2, hScd, hSht⟩ := hS
  obtain ⟨ck0, cc0, ck1, cc1, ck2, cc2⟩ := hC
  obtain ⟨tq, hty1⟩ := hty1
  have ac : Abv n0 cl9 := abv_up (abv_up a0 l1) l3
  have at' : Abv n0 tbd := abv_up ac l4
  have d1 : tbd ≠ mkd := Nat.ne_of_gt (Nat.lt_trans l1 (Nat.lt_trans l3 l4))
  have d2 : mkd ≠ tbd := d1.symm
  have d3 : ix ≠ cl9 := Nat.ne_of_gt (Nat.lt_trans l4 (Nat.lt_trans l5 l6))
  have d4 : ck ≠ cl9 := Nat.ne_of_gt (Nat.lt_trans l4 (Nat.lt_trans l5 (Nat.lt_trans l6 l7)))
  mem_news
  nest_room
  refine FoG.unL (vs := [.ref (x 0), .ref (x 1), .ref (x 2)]) (by tb_start) ItS.listN ?_
  repeat' (first | kp_flats | ((with_reducible refine' UnL.nil ?a0 ?_); (case a0 => tb_start); intro t') | ((with_reducible refine' UnL.cons ?a0 ?_); (case a0 => tb_start); intro c2' t' d2' u2' G2' cl2' f2') | ((with_reducible refine' UnR.nil ?a0 ?_); (case a0 => tb_start); intro t') | ((with_reducible refine' UnR.cons ?a0 ?_); (case a0 => tb_start); intro c2' t' u' d2' u2' G2' cl2' f2'))
  obtain ⟨hi1, hi2, hi3, hi4⟩ := hScd 0 (by decide)
  refine Go.acol (cl9 := cl9) (cvs := []) (by tb_start) (by tb_start) (by tb_start) (by tb_start) (by tb_start) (by tb_start) (Nat.le_of_ble_eq_true rfl) (Ins.to hi1 (by tb_start)) hi2 hi3 (hSht 0 (by decide)) (fun _ h => nomatch h) (nm_sz 0) (nm_row (by decide)) (by ktr_room) (by ktr_room) ?_
  intro c0 dc0 es0 ne0 q0 ta0 tc0 kc0 nw0 t0 p1 p2 p3 p4 p5 p6 p7 p8 p9 p10 p11
  have s1 : Sub n0 nw0 := by tb_start
  have h0m : dc0 ≠ mkd := abv_ne' p10 o2
  have h0t : dc0 ≠ tbd := abv_ne' p10 o4
  have q0m := h0m.symm
  have q0t := h0t.symm
  have p3 : (cl9, listOf [Value.ref c0].toArray kc0) ∈ nw0 := p3
  repeat' (first | kp_flats | ((with_reducible refine' UnL.nil ?a0 ?_); (case a0 => tb_start); intro t') | ((with_reducible refine' UnL.cons ?a0 ?_); (case a0 => tb_start); intro c2' t' d2' u2' G2' cl2' f2') | ((with_reducible refine' UnR.nil ?a0 ?_); (case a0 => tb_start); intro t') | ((with_reducible refine' UnR.cons ?a0 ?_); (case a0 => tb_start); intro c2' t' u' d2' u2' G2' cl2' f2'))
  obtain ⟨hi1, hi2, hi3, hi4⟩ := hScd 1 (by decide)
  refine Go.acol (cl9 := cl9) (cvs := [.ref c0]) (by tb_start) (by tb_start) (by tb_start) (by tb_start) (by tb_start) (by tb_start) (Nat.le_of_ble_eq_true rfl) (Ins.to hi1 (by tb_start)) hi2 hi3 (hSht 1 (by decide)) (fun v hv => by rw [List.mem_singleton.mp hv]; exact colNe_mk (by decide) (by decide) (ins_mk p1 p2 p4) p5) (nm_sz 1) (nm_row (by decide)) (by ktr_room) (by ktr_room) ?_
  intro c1 dc1 es1 ne1 q1 ta1 tc1 kc1 nw1 t1 x1 x2 x3 x4 x5 x6 x7 x8 x9 x10 x11
  have s2 : Sub n0 nw1 := by tb_start
  have h1m : dc1 ≠ mkd := abv_ne' x10 (show (mkd, dictOf em n1) ∈ nw0 by tb_start)
  have h1t : dc1 ≠ tbd := abv_ne' x10 (show (tbd, dictOf et n2) ∈ nw0 by tb_start)
  have h10 : dc1 ≠ dc0 := abv_ne' x10 p2
  have h01 := h10.symm
  have x3 : (cl9, listOf [Value.ref c0, .ref c1].toArray kc1) ∈ nw1 := x3
  repeat' (first | kp_flats | ((with_reducible refine' UnL.nil ?a0 ?_); (case a0 => tb_start); intro t') | ((with_reducible refine' UnL.cons ?a0 ?_); (case a0 => tb_start); intro c2' t' d2' u2' G2' cl2' f2') | ((with_reducible refine' UnR.nil ?a0 ?_); (case a0 => tb_start); intro t') | ((with_reducible refine' UnR.cons ?a0 ?_); (case a0 => tb_start); intro c2' t' u' d2' u2' G2' cl2' f2'))
  obtain ⟨hi1, hi2, hi3, hi4⟩ := hScd 2 (by decide)
  refine Go.acol (cl9 := cl9) (cvs := [.ref c0, .ref c1]) (by tb_start) (by tb_start) (by tb_start) (by tb_start) (by tb_start) (by tb_start) (Nat.le_of_ble_eq_true rfl) (Ins.to hi1 (by tb_start)) hi2 hi3 (hSht 2 (by decide)) (fun v hv => by
    rcases List.mem_cons.mp hv with rfl | hv
    · exact colNe_mk (by decide) (by decide) (ins_mk (by tb_start) (by tb_start) p4) p5
    · rw [List.mem_singleton.mp hv]; exact colNe_mk (by decide) (by decide) (ins_mk x1 x2 x4) x5) (nm_sz 2) (nm_row (by decide)) (by ktr_room) (by ktr_room) ?_
  intro c2 dc2 es2 ne2 q2 ta2 tc2 kc2 nw2 t2 y1 y2 y3 y4 y5 y6 y7 y8 y9 y10 y11
  have s3 : Sub n0 nw2 := by tb_start
  have h2m : dc2 ≠ mkd := abv_ne' y10 (show (mkd, dictOf em n1) ∈ nw1 by tb_start)
  have h2t : dc2 ≠ tbd := abv_ne' y10 (show (tbd, dictOf et n2) ∈ nw1 by tb_start)
  have h20 : dc2 ≠ dc0 := abv_ne' y10 (show (dc0, dictOf es0 ne0) ∈ nw1 by tb_start)
  have h02 := h20.symm
  have h21 : dc2 ≠ dc1 := abv_ne' y10 x2
  have h12 := h21.symm
  have q2m := h2m.symm
  have q2t := h2t.symm
  have y3 : (cl9, listOf [Value.ref c0, .ref c1, .ref c2].toArray kc2) ∈ nw2 := y3
  repeat' (first | kp_flats | ((with_reducible refine' UnL.nil ?a0 ?_); (case a0 => tb_start); intro t') | ((with_reducible refine' UnL.cons ?a0 ?_); (case a0 => tb_start); intro c2' t' d2' u2' G2' cl2' f2') | ((with_reducible refine' UnR.nil ?a0 ?_); (case a0 => tb_start); intro t') | ((with_reducible refine' UnR.cons ?a0 ?_); (case a0 => tb_start); intro c2' t' u' d2' u2' G2' cl2' f2'))
  refine FoG.unR (is := [0, 1, 2]) (by tb_start) (Nat.le_of_ble_eq_true rfl) rfl ?_
  obtain ⟨hi1, hi2, hi3, hi4⟩ := hScd 0 (by decide)
  repeat' (first | kp_flats | ((with_reducible refine' UnL.nil ?a0 ?_); (case a0 => tb_start); intro t') | ((with_reducible refine' UnL.cons ?a0 ?_); (case a0 => tb_start); intro c2' t' d2' u2' G2' cl2' f2') | ((with_reducible refine' UnR.nil ?a0 ?_); (case a0 => tb_start); intro t') | ((with_reducible refine' UnR.cons ?a0 ?_); (case a0 => tb_start); intro c2' t' u' d2' u2' G2' cl2' f2'))
  refine FoG.unL (by tb_start) ItS.listT ?_
  repeat' (first | kp_flats | ((with_reducible refine' UnL.nil ?a0 ?_); (case a0 => tb_start); intro t') | ((with_reducible refine' UnL.cons ?a0 ?_); (case a0 => tb_start); intro c2' t' d2' u2' G2' cl2' f2') | ((with_reducible refine' UnR.nil ?a0 ?_); (case a0 => tb_start); intro t') | ((with_reducible refine' UnR.cons ?a0 ?_); (case a0 => tb_start); intro c2' t' u' d2' u2' G2' cl2' f2'))
  refine Go.accC (cl9 := cl9) (cvs := [.ref c0, .ref c1, .ref c2]) (by tb_start) (by tb_start) (by tb_start) (by tb_start) (by tb_start) (by decide) (by decide) rfl (show (c0, instObj 917 dc0) ∈ _ by tb_start) (show (dc0, dictOf es0 ne0) ∈ _ by tb_start) p4 (by decide) hsa hwa (by ktr_room) (by ktr_room) ?_
  intro es0' ne0' q0' tc0' nw3 t3 z1 z2 z3 z4
  have s4 : Sub n0 nw3 := by tb_start
  obtain ⟨hi1, hi2, hi3, hi4⟩ := hScd 1 (by decide)
  repeat' (first | kp_flats | ((with_reducible refine' UnL.nil ?a0 ?_); (case a0 => tb_start); intro t') | ((with_reducible refine' UnL.cons ?a0 ?_); (case a0 => tb_start); intro c2' t' d2' u2' G2' cl2' f2') | ((with_reducible refine' UnR.nil ?a0 ?_); (case a0 => tb_start); intro t') | ((with_reducible refine' UnR.cons ?a0 ?_); (case a0 => tb_start); intro c2' t' u' d2' u2' G2' cl2' f2'))
  refine FoG.mk (ItS.listT (vs := kvs)) (sub1 (by tb_start)) (fun i m1 nw' => m1 (Str.ofString "self") = some (.ref mk) ∧ (∃ u, m1 (Str.ofString "place") = some (.int 1 u)) ∧ ∃ em' et' nm nt fm' ft' n4, PkIs nw3 st mkd tb tbd cl9 ix ck (decide (0 < i)) em' et' nm nt fm' ft' n4 nw') ⟨by tb_start, ⟨_, by tb_start⟩, em, et, n1, n2, fm, ft, nw3, by tb_start, flds_le fM (by decide), w2, r3, r5, fun _ => ⟨w3, r6, rfl⟩, w1, by tb_start, flds_le fT (by decide), ⟨tn, v1⟩, v2, ⟨0, v3⟩, v4, v5, .rf, .rf⟩ ?hl ?turn ?done
  case hl =>
    intro i m1 nw' ⟨_, _, em', et', nm, nt, fm', ft', n4, P⟩
    obtain ⟨_, _, _, _, _, _, _, _, _, _, _, _, _, _, g1, g2⟩ := P
    exact sub1 (by tb_start)
  case turn =>
    intro c9 i u m5 nw5 t5 dd9 uu9 GG9 cl9' f9 hi hu ⟨g0, ⟨tk, gp⟩, em5, et5, nm5, nt5, fm5, ft5, n4, P⟩
    rcases cc1 with ⟨rfl, rfl⟩ | ⟨rfl, rfl, cc1⟩
    · exact absurd hi (Nat.not_lt_zero _)
    obtain rfl : i = 0 := Nat.lt_one_iff.mp hi
    obtain rfl : u = .ref qb := (Option.some.inj hu).symm
    obtain ⟨j1, j2, j3, j4, j5, j6, j7, j8, j9, j10, j11, j12, j13, j14, j15, j16⟩ := P
    obtain ⟨j61, j62, e5⟩ := j6 rfl
    clear j15 j16
    subst e5
    repeat' (first | kp_flats | ((with_reducible refine' UnL.nil ?a0 ?_); (case a0 => tb_start); intro t') | ((with_reducible refine' UnL.cons ?a0 ?_); (case a0 => tb_start); intro c2' t' d2' u2' G2' cl2' f2') | ((with_reducible refine' UnR.nil ?a0 ?_); (case a0 => tb_start); intro t') | ((with_reducible refine' UnR.cons ?a0 ?_); (case a0 => tb_start); intro c2' t' u' d2' u2' G2' cl2' f2'))
    refine Go.accP (mk := mk) (mkd := mkd) (tb := tb) (tbd := tbd) (cl9 := cl9) (co := c1) (cvs := [.ref c0, .ref c1, .ref c2]) (by tb_start) j1 j2 (by tb_start) j8 j9 d1 j3 j61 j62 j11 (by tb_start) rfl (ins_mk (by tb_start) (show (dc1, dictOf es1 ne1) ∈ _ by tb_start) x4) (by rw [x6, hty1]) (by decide) (by decide) (by ktr_room) (by ktr_room) ?_
    intro em6 et6 nm6 nt6 fm6 f1 ft6 v u nw6 nw7 t7 b1 b2 b3 b4 b5 b6 b7 b8 b9
    repeat' (first | kp_flats | ((with_reducible refine' UnL.nil ?a0 ?_); (case a0 => tb_start); intro t') | ((with_reducible refine' UnL.cons ?a0 ?_); (case a0 => tb_start); intro c2' t' d2' u2' G2' cl2' f2') | ((with_reducible refine' UnR.nil ?a0 ?_); (case a0 => tb_start); intro t') | ((with_reducible refine' UnR.cons ?a0 ?_); (case a0 => tb_start); intro c2' t' u' d2' u2' G2' cl2' f2'))
    exact ⟨by tb_start, ⟨_, by tb_start⟩, em6, et6, nm6, nt6, fm6, ft6, nw6, b1, flds_le b3 (by decide), by tb_start, by tb_start, by tb_start, fun h => absurd h (by decide), by tb_start, b2, flds_le b4 (by decide), j10.imp fun t h => by tb_start, by tb_start, ⟨u, show _ = some (Value.int 1 u) by tb_start⟩, by tb_start, by tb_start, b8, b9⟩
  case done =>
    intro m5 nw5 t5 ⟨g0, ⟨tk, gp⟩, em5, et5, nm5, nt5, fm5, ft5, n4, P⟩
    have eb : decide (0 < kvs.length) = hky := by
      rcases cc1 with ⟨rfl, rfl⟩ | ⟨rfl, rfl, cc1⟩ <;> rfl
    rw [eb] at P
    obtain ⟨j1, j2, j3, j4, j5, j6, j7, j8, j9, ⟨tn5, j10⟩, j11, ⟨tr5, j12⟩, j13, j14, j15, j16⟩ := P
    have s5 : Sub n0 nw5 := by tb_start
    obtain ⟨hi1, hi2, hi3, hi4⟩ := hScd 2 (by decide)
    repeat' (first | kp_flats | ((with_reducible refine' UnL.nil ?a0 ?_); (case a0 => tb_start); intro t') | ((with_reducible refine' UnL.cons ?a0 ?_); (case a0 => tb_start); intro c2' t' d2' u2' G2' cl2' f2') | ((with_reducible refine' UnR.nil ?a0 ?_); (case a0 => tb_start); intro t') | ((with_reducible refine' UnR.cons ?a0 ?_); (case a0 => tb_start); intro c2' t' u' d2' u2' G2' cl2' f2'))
    refine FoG.unL (by tb_start) ItS.listT ?_
    repeat' (first | kp_flats | ((with_reducible refine' UnL.nil ?a0 ?_); (case a0 => tb_start); intro t') | ((with_reducible refine' UnL.cons ?a0 ?_); (case a0 => tb_start); intro c2' t' d2' u2' G2' cl2' f2') | ((with_reducible refine' UnR.nil ?a0 ?_); (case a0 => tb_start); intro t') | ((with_reducible refine' UnR.cons ?a0 ?_); (case a0 => tb_start); intro c2' t' u' d2' u2' G2' cl2' f2'))
    refine Go.accC (cl9 := cl9) (cvs := [.ref c0, .ref c1, .ref c2]) (by tb_start) (by tb_start) (by tb_start) (by tb_start) (by tb_start) (by decide) (by decide) rfl (show (c2, instObj 917 dc2) ∈ _ by tb_start) (show (dc2, dictOf es2 ne2) ∈ _ by tb_start) y4 (by decide) hsb hwb (by ktr_room) (by ktr_room) ?_
    intro es2' ne2' q2' tc2' nw6 t6 a1 a2 a3 a4
    have s6 : Sub n0 nw6 := by tb_start
    repeat' (first | kp_flats | ((with_reducible refine' UnL.nil ?a0 ?_); (case a0 => tb_start); intro t') | ((with_reducible refine' UnL.cons ?a0 ?_); (case a0 => tb_start); intro c2' t' d2' u2' G2' cl2' f2') | ((with_reducible refine' UnR.nil ?a0 ?_); (case a0 => tb_start); intro t') | ((with_reducible refine' UnR.cons ?a0 ?_); (case a0 => tb_start); intro c2' t' u' d2' u2' G2' cl2' f2'))
    exact h c0 c1 c2 em5 et5 nm5 nt5 _ fm5 ft5 q0' q1 q2' _ _ ⟨by tb_start, by tb_start, flds_le j2 (by cases hky <;> decide), j3, j4, by tb_start, by tb_start, flds_le j9 (by cases hky <;> decide), ⟨_, j10⟩, j11, ⟨_, j12⟩, j13, off_mem (by tb_start) (Nat.ne_of_lt l4), by tb_start,
      ins_mk (off_mem (show (c0, instObj 917 dc0) ∈ nw6 by tb_start) (Nat.ne_of_gt (Nat.lt_trans (p10 _ o4) p11))) (off_mem (by tb_start) h0t) z2,
      ins_mk (off_mem (show (c1, instObj 917 dc1) ∈ nw6 by tb_start) (Nat.ne_of_gt (Nat.lt_trans (x10 (tbd, dictOf et n2) (by tb_start)) x11))) (off_mem (show (dc1, dictOf es1 ne1) ∈ nw6 by tb_start) h1t) x4,
      ins_mk (off_mem (show (c2, instObj 917 dc2) ∈ nw6 by tb_start) (Nat.ne_of_gt (Nat.lt_trans (y10 (tbd, dictOf et n2) (by tb_start)) y11))) (off_mem (by tb_start) h2t) a2,
      ⟨_, (z3.2 _ (by decide +kernel)).trans p5⟩, ⟨_, x5⟩, ⟨_, (a3.2 _ (by decide +kernel)).trans y5⟩, ⟨_, (z3.2 _ (by decide +kernel)).trans p7⟩, ⟨_, x7⟩, ⟨_, (a3.2 _ (by decide +kernel)).trans y7⟩, ⟨_, by tb_start⟩, ⟨_, by tb_start⟩, ⟨_, by tb_start⟩⟩ s6
theorem Go.tfr {st l l2 : Addr} {x k : Nat → Addr} {ty : Nat → Value} {g : Str → Option Value} {gs : Nat → Str → Option Value} {ts : Nat → Tok} {tn tt : Tok} {kl kl2 : Nat} {wa wb : Str} {hky : Bool} {kvs : List Value} {qa qb qc : Addr} {ma mb' mc za zb zc : Nat} {xa ya xb xc yc : Tok} {R : Value → Lc → Led → Nat → Prop}
    (hS : StIs nw st l l2 x k ty g gs ts tn tt kl kl2) (hC : CoIs nw k wa wb hky kvs qa qb qc ma mb' mc za zb zc xa ya xb xc yc) (hty1 : ∃ tq, ty 1 = .str (Str.ofString "INTEGER") tq) (hsa : wa.cps.size ≤ 64) (hsb : wb.cps.size ≤ 64) (hwa : foldS wa = Str.ofString "binary" ∨ foldS wa = Str.ofString "nocase" ∨ foldS wa = Str.ofString "rtrim") (hwb : foldS wb = Str.ofString "binary" ∨ foldS wb = Str.ofString "nocase" ∨ foldS wb = Str.ofString "rtrim") (hdp : c.dp + 20 < recursionLimit) (hun : c.un + 2000 < cLine)
    (h : ∀ tb cl9 c0 c1 c2 ck gt q0 q1 q2 nw' t', Sub nw nw' → TbR nw' tb hky wa wb cl9 c0 c1 c2 ck gt q0 q1 q2 → R (.ref tb) m nw' t') :
    Go sc c (call (.ref 1129) [.ref st]) m nw t R := by
  have hS9 := hS
  obtain ⟨hSi, hSn, hSx, hSc, hSd, hSl, hSl2, hScd, hSht⟩ := hS9
  ((with_reducible refine' Go.enterW (ws := [.ref st, .none]) ?a0 ?a1 ?a2 ?a3 ?a4 ?a5 ?a6 ?a7 ?a8 ?_); (case a0 | a1 => k_is); (case a2 => ktr_room); (case a3 => intro s9 X9; k_sizes); (case a4 => exact locs rfl); (case a5 | a6 | a7 => exact rfl); (case a8 => decide); intro c1 m0 t0 hd1 hu1 hG1 hf1 hm0; (try replace hG1 := hG1.trans (by assumption))); (try replace hG1 := hG1.trans (by assumption))
  nest_room
  refine Go.tmk (by tb_start) hSn hSx (by ktr_room) (by ktr_room) ?_
  intro mk mkd tb tbd cl9 ix ck em et n1 n2 fm ft k1 k2 k3 nw1 t1 o1 o2 fM o3 o4 fT v1 v2 v3 v4 v5 w1 w2 w3 r1 r2 r3 r4 r5 r6 e1 e2 e3 s1 a1 l1 l2 l3 l4 l5 l6
  nest_room
  refine Go.read hS hC hty1 hsa hsb hwa hwb o1 o2 fM o3 o4 fT v1 v2 v3 v4 v5 w1 w2 w3 r1 r3 r4 r5 r6 e1 e2 e3 s1 a1 l1 l2 l3 l4 l5 l6 (by ktr_room) (by ktr_room) ?_
  intro c0 c1 c2 em' et' nm nt kc fm' ft' q0 q1 q2 nw2 t2 P s2
  obtain ⟨m1, m2, m3, m4, m5, t1, t2, t3, ⟨u4, t4⟩, t5, ⟨u6, t6⟩, t7, l9, l8, i0, i1, i2, n0, n1, n2, f0, f1, f2, g0, g1, g2⟩ := P
  nest_room
  refine Go.settle m1 m2 m3 m4 t1 t2 t3 (by decide) t7 l8 (by ktr_room) (by ktr_room) ?_
  intro et3 nt3 ft3 v nw3 t8 b1 b2 b3 b4
  nest_room
  have at' : Abv nw tbd := abv_up (abv_up (abv_up a1 l1) l2) l3
  have ho : Sub (off tbd nw2) nw3 := fun p hp => b4 p (off_sub p hp) (.inl (off_ne p hp))
  exact h tb cl9 c0 c1 c2 _ ft3 q0 q1 q2 _ _ (by tb_start) ⟨ins_mk (by tb_start) b1 b2, ⟨u4, by tb_start⟩, by tb_start, ⟨u6, by tb_start⟩, ho _ l9, i0.mono ho, i1.mono ho, i2.mono ho, n0, n1, n2, f0, f1, f2, g0, g1, g2⟩
end
end
section
noncomputable def sel3 {α : Type} (a b c : α) (i : Nat) : α := if i = 0 then a else if i = 1 then b else c
theorem st_mk {nw : List (Addr × Obj)} {st l l2 x0 x1 x2 k0 k1 k2 : Addr} {g g0 g1 g2 : Str → Option Value} {tn tt u0 u1 u2 y0 y1 : Tok} {kl kl2 : Nat} (hi : Ins nw st 578 g) (hn : g (Str.ofString "name") = some (.str (Str.ofString "t") tn)) (htx : g (Str.ofString "text") = some (.str (Str.ofString "") tt)) (hc : g (Str.ofString "columns") = some (.ref l)) (hd : g (Str.ofString "constraints") = some (.ref l2))
    (hl : (l, listOf ([Value.ref x0, .ref x1] ++ [Value.ref x2]).toArray kl) ∈ nw) (hl2 : (l2, listOf ([] : List Value).toArray kl2) ∈ nw)
    (i0 : Ins nw x0 552 g0) (n0 : g0 (Str.ofString "name") = some (.str (Str.ofString "a") u0)) (h0 : g0 (Str.ofString "type_name") = some (.str (Str.ofString "TEXT") y0)) (c0 : g0 (Str.ofString "constraints") = some (.ref k0))
    (i1 : Ins nw x1 552 g1) (n1 : g1 (Str.ofString "name") = some (.str (Str.ofString "b") u1)) (h1 : g1 (Str.ofString "type_name") = some (.str (Str.ofString "INTEGER") y1)) (c1 : g1 (Str.ofString "constraints") = some (.ref k1))
    (i2 : Ins nw x2 552 g2) (n2 : g2 (Str.ofString "name") = some (.str (Str.ofString "c") u2)) (h2 : g2 (Str.ofString "type_name") = some .none) (c2 : g2 (Str.ofString "constraints") = some (.ref k2)) :
    StIs nw st l l2 (sel3 x0 x1 x2) (sel3 k0 k1 k2) (sel3 (.str (Str.ofString "TEXT") y0) (.str (Str.ofString "INTEGER") y1) .none) g (sel3 g0 g1 g2) (sel3 u0 u1 u2) tn tt kl kl2 :=
  ⟨hi, hn, htx, hc, hd, hl, hl2, fun i h => by
    rcases lt3 h with rfl | rfl | rfl
    · exact ⟨i0, n0, h0, c0⟩
    · exact ⟨i1, n1, h1, c1⟩
    · exact ⟨i2, n2, h2, c2⟩, fun i h => by
    rcases lt3 h with rfl | rfl | rfl
    · exact .t _
    · exact .i _
    · exact .n⟩
theorem co_t {nw : List (Addr × Obj)} {k0 k1 k2 qa qb qc : Addr} {w0 w1 : Str} {m0 m1 m2 z0 z1 z2 : Nat} {a0 b0 a1 a2 b2 : Tok} (h1 : (k0, listOf [Value.ref qa].toArray m0) ∈ nw) (h2 : (qa, tupO [.str (Str.ofString "collate") a0, .str w0 b0] z0) ∈ nw) (h3 : (k1, listOf [Value.ref qb].toArray m1) ∈ nw) (h4 : (qb, tupO [.str (Str.ofString "primary key") a1, .bool false] z1) ∈ nw) (h5 : (k2, listOf [Value.ref qc].toArray m2) ∈ nw) (h6 : (qc, tupO [.str (Str.ofString "collate") a2, .str w1 b2] z2) ∈ nw) :
    CoIs nw (sel3 k0 k1 k2) w0 w1 true [Value.ref qb] qa qb qc m0 m1 m2 z0 z1 z2 a0 b0 a1 a2 b2 := ⟨h1, h2, h3, .inr ⟨rfl, rfl, h4⟩, h5, h6⟩
theorem co_f {nw : List (Addr × Obj)} {k0 k1 k2 qa qc : Addr} {w0 w1 : Str} {m0 m1 m2 z0 z2 : Nat} {a0 b0 a2 b2 : Tok} (h1 : (k0, listOf [Value.ref qa].toArray m0) ∈ nw) (h2 : (qa, tupO [.str (Str.ofString "collate") a0, .str w0 b0] z0) ∈ nw) (h3 : (k1, listOf ([] : List Value).toArray m1) ∈ nw) (h5 : (k2, listOf [Value.ref qc].toArray m2) ∈ nw) (h6 : (qc, tupO [.str (Str.ofString "collate") a2, .str w1 b2] z2) ∈ nw) :
    CoIs nw (sel3 k0 k1 k2) w0 w1 false [] qa qa qc m0 m1 m2 z0 0 z2 a0 b0 0 a2 b2 := ⟨h1, h2, h3, .inl ⟨rfl, rfl⟩, h5, h6⟩
section
variable {sc : Scope} {c : Cx} {m : Lc} {nw : Led} {t t' : Nat}
theorem Go.tsrc {tb cl9 b0 b1 b2 : Addr} {hky : Bool} {wa wb : Str} {ck : Nat} {gt q0 q1 q2 : Str → Option Value} {t4 : Tok} {R : Value → Lc → Led → Nat → Prop}
    (hT : TbR nw tb hky wa wb cl9 b0 b1 b2 ck gt q0 q1 q2) (hdp : c.dp + 12 < recursionLimit) (hun : c.un + 1200 < cLine)
    (h : ∀ so nw' t', Sub nw nw' → SrcIs nw' so 4 (cols3 wa wb) (.ref tb) → R (.ref so) m nw' t') : Go sc c (call (.ref 851) [.ref tb, .none, .int 4 t4]) m nw t R := by
  obtain ⟨td, tes, tn9, tb9, u1, u2, u3⟩ := hT.it
  obtain ⟨tt, hTn⟩ := hT.tn
  have hTc := hT.tc
  have hTl := hT.l
  ((with_reducible refine' Go.enterW (ws := [.ref tb, .none, .int 4 t4, .str (Str.ofString "inner") 1373, .none]) ?a0 ?a1 ?a2 ?a3 ?a4 ?a5 ?a6 ?a7 ?a8 ?_); (case a0 | a1 => k_is); (case a2 => ktr_room); (case a3 => intro s9 X9; k_sizes); (case a4 => exact locs rfl); (case a5 | a6 | a7 => exact rfl); (case a8 => decide); intro c1 m0 t0 hd1 hu1 hG1 hf1 hm0; (try replace hG1 := hG1.trans (by assumption))); (try replace hG1 := hG1.trans (by assumption))
  nest_room
  refine CoG.mk (ItS.listN (vs := [.ref b0, .ref b1, .ref b2])) (Nat.le_of_ble_eq_true rfl) (sub1 hTl) (fun i ys nw' => Sub nw nw' ∧ DatAll nw' ys (((cols3 wa wb).take i).map colS)) ⟨Sub.rf, .nil⟩ (fun _ _ _ q => sub1 (q.1 _ hTl)) ?turn ?done
  case turn =>
    intro c2 i v ys mC nw2 t2 d2 u2 G2 l2 hi hv ⟨hs, hD⟩
    obtain ⟨c, q, x, t1, t2, t3, rfl, ⟨dq, qs, qn, qb, hq1, hq2, hq3⟩, g1, g2, g3, hx⟩ := hT.col hv
    nest_room
    refine ⟨by tb_start, ?_⟩
    rw [take_at hx, List.map_append]
    exact datAll_snoc (DatAll.mono (show Sub _ _ by tb_start) hD) (.tuple (by with_reducible assumption) (.cons (.str _ _) (.cons (.str _ _) (.cons (.str _ _) .nil))))
  case done =>
    intro D k ys nw2 nw3 t2 ⟨hs, hD⟩ hm hs3 hA hne
    nest_room
    refine Go.source (by ktr_room) ?_
    intro x fs nw4 t4 s4 i4 g1 g2 g3 g4 g5 g6 g7
    nest_room
    exact h _ _ _ (by tb_start) ⟨fs, _, D, ys, k, i4, by tb_start, by tb_start, by tb_start, by tb_start, DatAll.mono (show Sub _ _ by tb_start) hD⟩
theorem Go.lsrc {wl : Addr} {w0 w1 : Str} {t0 t1 : Tok} {wk : Nat} {hky : Bool} {R : Value → Lc → Led → Nat → Prop}
    (hw : (wl, listOf [.str w0 t0, .str w1 t1].toArray wk) ∈ nw) (hs0 : w0.cps.size ≤ 64) (hs1 : w1.cps.size ≤ 64) (hw0 : foldS w0 = Str.ofString "binary" ∨ foldS w0 = Str.ofString "nocase" ∨ foldS w0 = Str.ofString "rtrim") (hw1 : foldS w1 = Str.ofString "binary" ∨ foldS w1 = Str.ofString "nocase" ∨ foldS w1 = Str.ofString "rtrim") (hdp : c.dp + 30 < recursionLimit) (hun : c.un + 3000 < cLine)
    (h : ∀ so tb nw' t', Sub nw nw' → SrcIs nw' so 4 (cols3 w0 w1) (.ref tb) → TabIs nw' tb hky → R (.ref so) m nw' t') :
    Go sc c (call (.ref 1157) [.bool hky, .ref wl]) m nw t R := by
  cases hky
  · mem_news
    nest_room
    refine Go.tfr (st_mk (by tb_start) (by tb_start) (by tb_start) (by tb_start) (by tb_start) (by tb_start) (by tb_start) (by tb_start) (by tb_start) (by tb_start) (by tb_start) (by tb_start) (by tb_start) (by tb_start) (by tb_start) (by tb_start) (by tb_start) (by tb_start) (by tb_start) ) (co_f (by tb_start) (by tb_start) (by tb_start) (by tb_start) (by tb_start) ) ⟨_, rfl⟩ hs0 hs1 hw0 hw1 (by ktr_room) (by ktr_room) ?_
    intro tb cl9 c0 c1 c2 ck gt q0 q1 q2 nw2 t2 s2 T2
    nest_room
    refine Go.tsrc T2 (by ktr_room) (by ktr_room) ?_
    intro so nw3 t3 s3 S3
    nest_room
    exact h so tb _ _ (by tb_start) S3 (T2.tab.mono s3)
  · mem_news
    nest_room
    refine Go.tfr (st_mk (by tb_start) (by tb_start) (by tb_start) (by tb_start) (by tb_start) (by tb_start) (by tb_start) (by tb_start) (by tb_start) (by tb_start) (by tb_start) (by tb_start) (by tb_start) (by tb_start) (by tb_start) (by tb_start) (by tb_start) (by tb_start) (by tb_start) ) (co_t (by tb_start) (by tb_start) (by tb_start) (by tb_start) (by tb_start) (by tb_start) ) ⟨_, rfl⟩ hs0 hs1 hw0 hw1 (by ktr_room) (by ktr_room) ?_
    intro tb cl9 c0 c1 c2 ck gt q0 q1 q2 nw2 t2 s2 T2
    nest_room
    refine Go.tsrc T2 (by ktr_room) (by ktr_room) ?_
    intro so nw3 t3 s3 S3
    nest_room
    exact h so tb _ _ (by tb_start) S3 (T2.tab.mono s3)
end
end
section
section
variable {sc : Scope} {c : Cx} {m : Lc} {nw : Led} {t t' : Nat}
theorem Go.lenO {l : Addr} {vs : List Value} {R : Value → Lc → Led → Nat → Prop} (q : c.h₀.IsList l vs.toArray) (hz : vs.length ≤ 1000) (h : R (.int (vs.length : Int) (t + 1)) m nw (t + 1 + 1)) : Go sc c (call (.builtin "len") [.ref l]) m nw t R := by
  intro s Q hk ht F I k
  have I9 := I
  obtain ⟨g, hG, N, hne⟩ := I
  subst ht
  exact Calls.call_len_list (q.at fun o e => F.keep _ _ e) (by simp; omega) (by simpa using k _ s.heap _ _ _ F I9 h)
theorem Go.subO {x : Str} {xp pos : Pos} {ix : Expr} {l : Addr} {vs : List Value} {i : Int} {u : Tok} {v : Value} {R : Value → Lc → Led → Nat → Prop} (hx : locOk sc x = true) (hv : m x = some (.ref l)) (P : PV (gk.heap_1 c.w.params) sc c.cl m nw ix t (.int i u) t') (q : c.h₀.IsList l vs.toArray) (h0 : 0 ≤ i) (h1 : i < 2 ^ 63) (hi : vs[i.toNat]? = some v) (h : R v m nw t') : Go sc c (eval (.Subscript (.Name x xp) ix pos) (c.env sc)) m nw t R := by
  intro s Q hk ht F I k
  have I9 := I
  obtain ⟨g, hG, N, hne⟩ := I
  subst ht
  refine Subscript_ (nameE_L c.ok F hv (P.sound c.ok rfl F c.X (topRead_of c.T) (KStb.news_of N fun p hp => mr hp) ?_) hx)
  exact item_list (q.at fun o e => F.keep _ _ e) h0 h1 (by simpa using hi) (k _ s.heap _ _ _ F I9 h) (plain_ix P) (fun r => by with_unfolding_all rfl)
theorem Go.pow {a n : Int} {u v : Tok} {R : Value → Lc → Led → Nat → Prop} (hn : 0 ≤ n) (hn2 : n ≤ 1000000) (ha : a.natAbs < 2 ^ 64) (h : R (.int (a ^ n.toNat) t) m nw (t + 1)) : Go sc c (binaryOp .Pow (.int a u) (.int n v)) m nw t R := by
  intro s Q hk ht F I k
  subst ht
  exact pow_int_small hn hn2 ha (k _ s.heap _ _ _ F I h)
theorem Go.pool {sl : Addr} {vs : List Value} {ns : List Int} {k : Int} {tk : Tok} {R : Value → Lc → Led → Nat → Prop} (q0 : c.h₀.IsList sl vs.toArray) (hi : IntsAre vs ns) (hn : ns.length ≤ 63) (k0 : 0 ≤ k) (k1 : k ≤ 1) (hdp : c.dp + 6 < recursionLimit) (hun : c.un + 400 < cLine)
    (h : ∀ (src : Nat) a b ta tb nw' t', 0 ≤ a → 0 ≤ b → b < 2147483647 → (src, listOf [.int a ta, .int b tb].toArray 0) ∈ nw' → Sub nw nw' → Abv nw src → R (.ref src) m nw' t') :
    Go sc c (call (.ref 1136) [.ref sl, .int k tk]) m nw t R := by
  have hlen := hi.length
  have z1 : (2147483629 : Int) ≠ 0 := by decide
  have z2 : (2147483647 : Int) ≠ 0 := by decide
  ((with_reducible refine' Go.enterH (ws := [.ref sl, .int k tk]) ?a0 ?a1 ?a2 ?a3 ?a4 ?a5 ?a6 ?a7 ?a8 ?_); (case a0 | a1 => k_is); (case a2 => ktr_room); (case a3 => intro s9 X9; k_sizes); (case a4 => exact locs rfl); (case a5 | a6 | a7 => exact rfl); (case a8 => decide); intro c1 m0 t0 hd1 hu1 hG1 hf1 hk1 hm0)
  have q := q0.at fun o e => hk1 _ o e
  nest_room
  refine Go.lenO q (by kpr_short) ?_
  nest_room
  · rename decide _ = true => q1
    have q2 := of_decide_eq_true q1
    obtain ⟨v, hv⟩ : ∃ v, vs[k.toNat]? = some v := ⟨_, List.getElem?_eq_getElem (by kpr_short)⟩
    obtain ⟨n, u, rfl, hn⟩ := IntsAre.at hi _ _ hv
    refine Go.subO (by decide +kernel) (by tb_start) (by tb_rel) q k0 (by kpr_short) hv ?_
    nest_room
    refine Go.pow (by decide) (by decide) (by decide) ?_
    nest_room
    exact h _ _ _ _ _ _ _ big_nn (fm_nonneg (by decide)) (fm_lt (by decide)) (by tb_start) (by tb_start) (by tb_start)
  · refine Go.pow (by decide) (by decide) (by decide) ?_
    nest_room
    exact h _ _ _ _ _ _ _ big_nn (fm_nonneg (by decide)) (fm_lt (by decide)) (by tb_start) (by tb_start) (by tb_start)
end
end
section
noncomputable def dN : PathD := ⟨.index, [⟨0, Str.ofString "nocase", false⟩], 0, false, false⟩
theorem lvl_n {x : Addr} {f : Bool} : lvl 4 true (fixOf dN) [⟨x, some (4, 0, foldS (Str.ofString "binary")), f⟩] (ordOf dN true) none dN.single = (0, none, false) := lvl_end3 (by simp [fixOf, dN]) (by decide +kernel)
theorem lvl_u {x : Addr} {f : Bool} : lvl 4 true (fixOf dN) [⟨x, none, f⟩] (ordOf dN true) none dN.single = (0, none, false) := rfl
section
variable {sc : Scope} {c : Cx} {m : Lc} {nw : Led} {t t' : Nat}
theorem Go.test1 {so tb ix cl9 a9 : Addr} {sc0 : Scope} {st1 st2 : Stmt} {rest : List Stmt} {fi : Str → Option Value} {ck9 n9' : Nat} {tp tc : Tok} {R : Flow → Lc → Led → Nat → Prop} (hsc : lawS = some sc0) (hs1 : lawB 1 = some st1) (hs2 : lawB 2 = some st2)
    (S1 : SrcIs nw so 4 (cols3 (Str.ofString "nocase") (Str.ofString "binary")) (.ref tb)) (T1 : TabIs nw tb true) (hix : Ins nw ix 950 fi) (hic : fi (Str.ofString "columns") = some (.ref cl9)) (hcl : (cl9, listOf [Value.ref a9].toArray ck9) ∈ nw) (ha9 : (a9, tupO [.int 0 tp, .str (Str.ofString "nocase") tc, .bool false] n9') ∈ nw)
    (m1 : m (Str.ofString "one") = some (.ref so)) (m2 : m (Str.ofString "index") = some (.ref ix)) (hdp : c.dp + 40 < recursionLimit) (hun : c.un + 4000 < cLine)
    (ret : ∀ m' nw' t', Sub nw nw' → (∀ y, y ≠ Str.ofString "walk" → m' y = m y) → Go sc0 c (execs rest (c.env sc0)) m' nw' t' R) :
    Go sc0 c (execs (st1 :: st2 :: rest) (c.env sc0)) m nw t R := by
  have e1 := lawS_at
  dsimp only [ddV] at e1
  rw [e1] at hsc
  cases hsc
  have e2 : lawB 1 = some _ := (lawB_at 1).trans rfl
  rw [e2] at hs1
  cases hs1
  have e3 : lawB 2 = some _ := (lawB_at 2).trans rfl
  rw [e3] at hs2
  cases hs2
  clear e1 e2 e3
  repeat' (first | kp_flats | ((with_reducible change Go _ _ (call (.ref 834) _) _ _ _ _); (refine Go.source (by ktr_room) ?_); intro so' sf' nw' t' ss' si' sg1' sg2' sg3' sg4' sg5' sg6' sg7') | ((with_reducible change Go _ _ (call (.ref 845) _) _ _ _ _); (refine Go.bname (by tb_start) (by tb_start) (by tb_start) (by exact rfl) (by exact rfl) (by first | exact SrcIs.to (by with_reducible assumption) (by tb_start) | exact src_mk2 (by tb_start) (by tb_start) (by tb_start) (by tb_start) (by tb_start) (by tb_start)) (by first | decide | omega) (by first | decide | omega) (by first | decide | omega) (by ktr_room) (by ktr_room) ?_); intro r' nw' t' s' n'))
  rename (NameIs _ _ _ _ _) => n9
  refine Go.owk (ts := [⟨_, some (4, 0, foldS (Str.ofString "binary")), _⟩]) (by tb_start) (all2_one (term_mk (by tb_start) (by tb_start) (by assumption) (by tb_start) (by tb_start) (exC (n9.mono (by (show Sub _ _); tb_start)) (by tb_start) (by tb_start) (by assumption) (by tb_start) (by tb_start) (by decide +kernel) (by decide +kernel) (by decide +kernel)))) (Nat.le_of_ble_eq_true rfl) (by ktr_room) (by ktr_room) ?_
  intro x lf lvs k f n0 nw2 t2 s1 s2 ho ha hI hl htl hm hA
  obtain ⟨v9, r9, rfl, hv9, A8⟩ := hA.head
  obtain rfl := A8.nil
  obtain ⟨dx, es, n, b, i1, i2, i3⟩ := id hI
  nest_room
  refine Go.nidx (hvs := []) (by tb_start) (Nat.zero_le _) (fun _ h => nomatch h) (by ktr_room) (by ktr_room) ?_
  intro x1 dx1 eq1 ea1 evs1 eqk1 es1 n1 f1 nw3 t3 g1 g2 g3 pf1 p1 el1 ps1 pl1 pl2
  nest_room
  refine Go.apart (a := eq1) (b := lf) (by tb_start) (by tb_start) (listOf_ne (by rw [el1]; simp)) fun hne => ?_
  have sA : Sub n0 (off lf nw3) := off_of (by tb_start) ho
  have sB : Sub nw (off lf nw3) := Sub.sub (show Sub nw n0 by tb_start) sA
  have hl1 : @LT.lt Nat _ lf dx1 := abv_lt pl1 (show (lf, listOf [v9].toArray k) ∈ _ by tb_start)
  refine Go.lvl (lf := lf) (num := 4) (d := dN) (hasT := true) (hky := true) (f := f) (by tb_start) off_sub off_ne (hI.mono sA) hl (hA.to sA) (Nat.le_of_ble_eq_true rfl) (S1.to sB)
    (pathIs_mk (l := 0) (off_mem g1 (Nat.ne_of_gt (Nat.lt_trans hl1 pl2))) (off_mem g2 (Nat.ne_of_gt hl1)) g3 pf1 (off_mem p1 hne) el1 (fun _ => ⟨ix, fi, cl9, _, ck9, rfl, hix.mono sB, hic, sB _ hcl, .cons (col_mk (x := ⟨0, Str.ofString "nocase", false⟩) (sB _ ha9)) .nil⟩)) ⟨tb, rfl, T1.to sB⟩ (Nat.le_of_ble_eq_true rfl) (Nat.zero_le _) (fun x hx => by rw [List.mem_singleton.mp hx]; decide +kernel) (fun t9 ht9 => by rw [List.mem_singleton.mp ht9]; exact tok_of (by decide +kernel)) (by ktr_room) (by ktr_room) ?_
  intro r k3 n3 nw4 t4 hK hS hm3 hr3
  rw [lvl_n] at hm3 hr3
  have s9 : Sub n0 nw4 := Sub.tr hS sA
  nest_room
  rename (Up1 _ _ _ _) => u9
  exact ret _ _ _ (by tb_start) fun y hy => u9.2 y hy
theorem Go.test2 {so tb ix cl9 a9 : Addr} {sc0 : Scope} {st1 st2 : Stmt} {rest : List Stmt} {fi : Str → Option Value} {ck9 n9' : Nat} {tp tc : Tok} {R : Flow → Lc → Led → Nat → Prop} (hsc : lawS = some sc0) (hs1 : lawB 3 = some st1) (hs2 : lawB 4 = some st2)
    (S1 : SrcIs nw so 4 (cols3 (Str.ofString "nocase") (Str.ofString "binary")) (.ref tb)) (T1 : TabIs nw tb true) (hix : Ins nw ix 950 fi) (hic : fi (Str.ofString "columns") = some (.ref cl9)) (hcl : (cl9, listOf [Value.ref a9].toArray ck9) ∈ nw) (ha9 : (a9, tupO [.int 0 tp, .str (Str.ofString "nocase") tc, .bool false] n9') ∈ nw)
    (m1 : m (Str.ofString "one") = some (.ref so)) (m2 : m (Str.ofString "index") = some (.ref ix)) (hdp : c.dp + 40 < recursionLimit) (hun : c.un + 4000 < cLine)
    (ret : ∀ m' nw' t', Sub nw nw' → (∀ y, y ≠ Str.ofString "walk" → m' y = m y) → Go sc0 c (execs rest (c.env sc0)) m' nw' t' R) :
    Go sc0 c (execs (st1 :: st2 :: rest) (c.env sc0)) m nw t R := by
  have e1 := lawS_at
  dsimp only [ddV] at e1
  rw [e1] at hsc
  cases hsc
  have e2 : lawB 3 = some _ := (lawB_at 3).trans rfl
  rw [e2] at hs1
  cases hs1
  have e3 : lawB 4 = some _ := (lawB_at 4).trans rfl
  rw [e3] at hs2
  cases hs2
  clear e1 e2 e3
  repeat' (first | kp_flats | ((with_reducible change Go _ _ (call (.ref 834) _) _ _ _ _); (refine Go.source (by ktr_room) ?_); intro so' sf' nw' t' ss' si' sg1' sg2' sg3' sg4' sg5' sg6' sg7') | ((with_reducible change Go _ _ (call (.ref 845) _) _ _ _ _); (refine Go.bname (by tb_start) (by tb_start) (by tb_start) (by exact rfl) (by exact rfl) (by first | exact SrcIs.to (by with_reducible assumption) (by tb_start) | exact src_mk2 (by tb_start) (by tb_start) (by tb_start) (by tb_start) (by tb_start) (by tb_start)) (by first | decide | omega) (by first | decide | omega) (by first | decide | omega) (by ktr_room) (by ktr_room) ?_); intro r' nw' t' s' n'))
  rename (NameIs _ _ _ _ _) => n9
  refine Go.owk (ts := [⟨_, none, _⟩]) (by tb_start) (all2_one (term_mk (by tb_start) (by tb_start) (by assumption) (by tb_start) (by tb_start) ⟨_, .inr (ins_mk (by tb_start) (by tb_start) (by assumption))⟩)) (Nat.le_of_ble_eq_true rfl) (by ktr_room) (by ktr_room) ?_
  intro x lf lvs k f n0 nw2 t2 s1 s2 ho ha hI hl htl hm hA
  obtain ⟨v9, r9, rfl, hv9, A8⟩ := hA.head
  obtain rfl := A8.nil
  obtain ⟨dx, es, n, b, i1, i2, i3⟩ := id hI
  nest_room
  refine Go.nidx (hvs := []) (by tb_start) (Nat.zero_le _) (fun _ h => nomatch h) (by ktr_room) (by ktr_room) ?_
  intro x1 dx1 eq1 ea1 evs1 eqk1 es1 n1 f1 nw3 t3 g1 g2 g3 pf1 p1 el1 ps1 pl1 pl2
  nest_room
  refine Go.apart (a := eq1) (b := lf) (by tb_start) (by tb_start) (listOf_ne (by rw [el1]; simp)) fun hne => ?_
  have sA : Sub n0 (off lf nw3) := off_of (by tb_start) ho
  have sB : Sub nw (off lf nw3) := Sub.sub (show Sub nw n0 by tb_start) sA
  have hl1 : @LT.lt Nat _ lf dx1 := abv_lt pl1 (show (lf, listOf [v9].toArray k) ∈ _ by tb_start)
  refine Go.lvl (lf := lf) (num := 4) (d := dN) (hasT := true) (hky := true) (f := f) (by tb_start) off_sub off_ne (hI.mono sA) hl (hA.to sA) (Nat.le_of_ble_eq_true rfl) (S1.to sB)
    (pathIs_mk (l := 0) (off_mem g1 (Nat.ne_of_gt (Nat.lt_trans hl1 pl2))) (off_mem g2 (Nat.ne_of_gt hl1)) g3 pf1 (off_mem p1 hne) el1 (fun _ => ⟨ix, fi, cl9, _, ck9, rfl, hix.mono sB, hic, sB _ hcl, .cons (col_mk (x := ⟨0, Str.ofString "nocase", false⟩) (sB _ ha9)) .nil⟩)) ⟨tb, rfl, T1.to sB⟩ (Nat.le_of_ble_eq_true rfl) (Nat.zero_le _) (fun x hx => by rw [List.mem_singleton.mp hx]; decide +kernel) (fun t9 ht9 a b c h => by rw [List.mem_singleton.mp ht9] at h; cases h) (by ktr_room) (by ktr_room) ?_
  intro r k3 n3 nw4 t4 hK hS hm3 hr3
  rw [lvl_u] at hm3 hr3
  have s9 : Sub n0 nw4 := Sub.tr hS sA
  nest_room
  rename (Up1 _ _ _ _) => u9
  exact ret _ _ _ (by tb_start) fun y hy => u9.2 y hy
end
end
section
theorem wok1 : WOk (Str.ofString "BINARY") := ⟨by decide +kernel, .inl (by decide +kernel)⟩
theorem wok2 : WOk (Str.ofString "nocase") := ⟨by decide +kernel, .inr (.inl (by decide +kernel))⟩
theorem wok3 : WOk (Str.ofString "binary") := ⟨by decide +kernel, .inl (by decide +kernel)⟩
theorem wok4 : WOk (Str.ofString "Rtrim") := ⟨by decide +kernel, .inr (.inr (by decide +kernel))⟩
theorem wok_of {x y : Str} {tx ty : Tok} {i : Nat} {v : Value} (h : [Value.str x tx, Value.str y ty][i]? = some v) (hx : WOk x) (hy : WOk y) : ∃ w t, v = .str w t ∧ WOk w := by
  rcases get2 h with rfl | rfl
  · exact ⟨_, _, rfl, hx⟩
  · exact ⟨_, _, rfl, hy⟩
theorem two_ok {c x : Str} {tc tx : Tok} {i : Nat} {v : Value} (h : [Value.str c tc, Value.str x tx][i]? = some v) (hc : PyData.strOk c = true) (hx : PyData.strOk x = true) : ∃ w t, v = .str w t ∧ PyData.strOk w = true := by
  rcases get2 h with rfl | rfl
  · exact ⟨_, _, rfl, hc⟩
  · exact ⟨_, _, rfl, hx⟩
theorem k_two {n : Nat} : ∃ k : Nat, (if (if (n : Int) < 2 then (n : Int) else 2) > 1 then (if (n : Int) < 2 then (n : Int) else 2) else 1) = (k : Int) ∧ k ≤ 2 := by
  by_cases h : n < 2
  · exact ⟨1, by rw [if_pos (show (n : Int) < 2 by omega), if_neg (by kpr_short)]; rfl, by decide⟩
  · exact ⟨2, by rw [if_neg (show ¬ (n : Int) < 2 by omega), if_pos (by decide)]; rfl, by decide⟩
section
variable {sc : Scope} {c : Cx} {m : Lc} {nw : Led} {t t' : Nat}
theorem Go.toG {src : Addr} {a b : Int} {ta tb : Tok} {n : Nat} {rest : List Stmt} {R : Flow → Lc → Led → Nat → Prop} (hG : c.G = fun g => g = []) (hm : (src, listOf [.int a ta, .int b tb].toArray n) ∈ nw) (h0 : 0 ≤ a) (h1 : 0 ≤ b) (h2 : b < 2147483647)
    (h : ∀ c3 : Cx, c3.dp = c.dp → c3.un = c.un → c3.G = SrcG src n → c3.cl = c.cl → c3.fsc = c.fsc → Go sc c3 (execs rest (c3.env sc)) m (off src nw) t R) : Go sc c (execs rest (c.env sc)) m nw t R := by
  intro s Q hk ht F I k
  obtain ⟨g, ⟨g0, l, hg0, hl, rfl, hd⟩, N, hne⟩ := I
  rw [hG] at hg0
  obtain rfl : g0 = [] := hg0
  refine h { c with G := SrcG src n } rfl rfl rfl rfl rfl s Q hk ht F ⟨[(src, _)] ++ l, ⟨[(src, _)], l, ⟨a, b, ta, tb, h0, h1, h2, rfl⟩, hl, rfl, fun p hp q hq => ?_⟩, KStb.news_of N fun p hp => ?_, fun p hp q hq => ?_⟩ fun v h' m' nw' t' F' I' r => ?_
  · rw [List.mem_singleton.mp hp]; exact (hne q hq _ hm).symm
  · rcases List.mem_append.mp hp with hp | hp
    · rcases List.mem_append.mp hp with hp | hp
      · rw [List.mem_singleton.mp hp]; exact mr hm
      · exact ml hp
    · exact mr (off_sub p hp)
  · rcases List.mem_append.mp hp with hp | hp
    · rw [List.mem_singleton.mp hp]; exact (off_ne q hq).symm
    · exact hne p hp q (off_sub q hq)
  · obtain ⟨_, ⟨g1, l1, hg1, hl1, rfl, hd1⟩, N', hne'⟩ := I'
    exact k _ _ _ _ _ F' ⟨[] ++ l1, ⟨[], l1, by rw [hG], hl1, rfl, fun p hp => nomatch hp⟩, KStb.news_of N' (fun p hp => by
      rcases List.mem_append.mp hp with hp | hp
      · exact ml (mr hp)
      · exact mr hp), fun p hp q hq => hne' p (mr hp) q hq⟩ r
theorem Go.loop {sl : Addr} {vs : List Value} {ns : List Int} {sc0 : Scope} {st0 : Stmt} {rest : List Stmt} {R : Flow → Lc → Led → Nat → Prop} (hsc : lawS = some sc0) (hst : lawB 5 = some st0) (hls : c.h₀.IsList sl vs.toArray) (hi : IntsAre vs ns) (hn : ns.length ≤ 63) (hG : c.G = fun g => g = []) (hf : c.fsc = none) (hm : m (Str.ofString "script") = some (.ref sl)) (hdp : c.dp + 40 < recursionLimit) (hun : c.un + 4000 < cLine)
    (ret : ∀ m' nw' t', Go sc0 c (execs rest (c.env sc0)) m' nw' t' R) : Go sc0 c (execs (st0 :: rest) (c.env sc0)) m nw t R := by
  have e1 := lawS_at
  dsimp only [ddV] at e1
  rw [e1] at hsc
  cases hsc
  have e2 : lawB 5 = some _ := (lawB_at 5).trans rfl
  rw [e2] at hst
  cases hst
  clear e1 e2
  have hlen := hi.length
  obtain ⟨n9, hn9, hle⟩ := k_two (n := ns.length)
  nest_room
  refine Go.lenO hls (by kpr_short) ?_
  rw [hlen]
  nest_room
  rename_i r9 nw9 t9 a9 b9 c9 h9 s9 l9
  rw [hn9] at h9
  refine FoG.mkH (ItS.rangeN (a := 0) (n := n9) (Int.zero_add _).symm (by decide) (by kpr_short)) (sub1 h9) (fun i m1 nw1 => m1 (Str.ofString "script") = some (.ref sl) ∧ Sub nw9 nw1) ⟨hm, Sub.rf⟩ (fun _ _ _ q => sub1 (q.2 _ h9)) ?turn ?done
  case done =>
    intro m1 nw1 t1 _
    nest_room
    exact ret _ _ _
  case turn =>
    rintro c2 i u m1 nw1 t1 d2 u2 G2 cl2 f2 hh2 hi9 ⟨tk, rfl⟩ ⟨g1, hs⟩
    nest_room
    refine Go.pool (by rw [hh2]; exact hls) hi hn (by kpr_short) (by kpr_short) (by ktr_room) (by ktr_room) ?_
    intro src a b ta tb nw2 t2 p1 p2 p3 p4 p5 p6
    intro m3 u3
    refine Go.toG (G2.trans hG) p4 p1 p2 p3 ?_
    intro c3 d3 u3' G3 cl3 f3
    have s3 : Sub nw1 (off src nw2) := off_abv p5 p6
    generalize off src nw2 = nw3 at s3 ⊢
    clear p4 p5 p6
    nest_room
    rename_i dq uq tq dq0 dq2 mq uq9 D1 n1 hD1 sD1 lD1 i0 v0 t0 hv0 D2 n2 hD2 sD2 lD2 i1 v1 t1' hv1 D3 n3 hD3 sD3 lD3
    obtain ⟨w0, tw0, rfl, hw0⟩ := wok_of hv0 wok1 wok2
    obtain ⟨w1, tw1, rfl, hw1⟩ := wok_of hv1 wok3 wok4
    generalize (dq == 0) = hky at uq9 ⊢
    refine Go.lsrc (w0 := w0) (w1 := w1) hD3 hw0.z hw1.z hw0.f hw1.f (by ktr_room) (by ktr_room) ?_
    intro so tb nw5 t5 s5 S5 T5
    obtain ⟨sfs, ts1, sll, svs, svk, ⟨dso, sos, son, sob, hi1, hi2, hi3⟩, hnum, hcol, htab, hsl, hsD⟩ := id S5
    nest_room
    rename_i mo uo cl nw6 hcl scl lcl mc uc dk uk tk' qk1 qk2 r10 nw10 t10 ta10 tb10 tc10 h10 s10 l10
    obtain ⟨n2, hn2, hle2⟩ := k_col qk2 qk1
    rw [hn2] at h10
    have hne10 : r10 ≠ cl := abv_ne' l10 hcl
    refine FoG.mk (ItS.rangeN (a := 0) (n := n2) (Int.zero_add _).symm (by decide) (by kpr_short)) (sub1 h10) (fun i m' nw' => m' (Str.ofString "script") = some (.ref sl) ∧ m' (Str.ofString "source") = some (.ref src) ∧ m' (Str.ofString "one") = some (.ref so) ∧ m' (Str.ofString "has_key") = some (.bool hky) ∧ m' (Str.ofString "columns") = some (.ref cl) ∧ KeepA cl nw10 nw' ∧ ∃ cvs ck cols, (cl, listOf cvs.toArray ck) ∈ nw' ∧ DatAll nw' cvs (cols.map colD) ∧ cols.length = i ∧ ∀ x ∈ cols, PyData.strOk x.c = true ∧ -1 ≤ x.p)
      ⟨by tb_start, by tb_start, by tb_start, by tb_start, by tb_start, KeepA.rf, [], 0, [], (show (cl, listOf ([] : List Value).toArray 0) ∈ nw10 by tb_start), .nil, rfl, fun _ h => nomatch h⟩ (fun _ _ _ ⟨_, _, _, _, _, q, _⟩ => sub1 (q _ h10 hne10)) ?turn ?done
    case turn =>
      rintro c4 i u m4 nw11 t11 d4 u4 G4 cl4 f4 hi ⟨tt, rfl⟩ ⟨g1, g2, g3, g4, g5, hK, cvs, ck, cols, hm, hD, hl, hO⟩
      have G5 := G4.trans G3
      have sK : Sub nw5 nw11 := by tb_start
      have hlc : cvs.length ≤ 1000 := by
        have q := DatAll.length hD
        rw [List.length_map] at q
        omega
      nest_room
      · refine' ⟨by tb_start, by tb_start, by tb_start, by tb_start, by tb_start, by tb_start, _, _, cols ++ [⟨_, _, _⟩], ?m, ?D, ?l, ?o⟩
        case m => tb_start
        case l => simp [hl]
        case D =>
          rw [List.map_append]
          exact datAll_snoc (cols_repl (show TupS nw11 _ by tb_start) hD) (col_mk (by tb_start))
        case o =>
          intro x hx
          rcases List.mem_append.mp hx with hx | hx
          · exact hO x hx
          · rw [List.mem_singleton.mp hx]
            exact ⟨show PyData.strOk (Str.ofString "binary") = true by decide +kernel, by dsimp only; omega⟩
      · rename (decide _ = false) => q9
        have q8 := of_decide_eq_false q9
        obtain ⟨x, xa, xn, xt1, xt2, xt3, hx1, hx2, hx3⟩ := cols_item4 (by assumption) hsD rfl (by kpr_short)
        have hcz := coll_szs4 (by assumption) (cols3_ok hw0 hw1)
        rw [hx3] at hcz
        nest_room
        rename (GetElem?.getElem? _ _ = some _) => e9
        obtain ⟨wz, twz, rfl, hwz⟩ := two_ok e9 hcz.2.2 (by decide +kernel)
        nest_room
        refine' ⟨by tb_start, by tb_start, by tb_start, by tb_start, by tb_start, by tb_start, _, _, cols ++ [⟨_, _, _⟩], ?m, ?D, ?l, ?o⟩
        case m => tb_start
        case l => simp [hl]
        case D =>
          rw [List.map_append]
          exact datAll_snoc (cols_repl (show TupS nw11 _ by tb_start) hD) (col_mk (by tb_start))
        case o =>
          intro x hx
          rcases List.mem_append.mp hx with hx | hx
          · exact hO x hx
          · rw [List.mem_singleton.mp hx]
            exact ⟨hwz, by dsimp only; omega⟩
    case done =>
      intro m4 nw11 t11 ⟨g1, g2, g3, g4, g5, hK, cvs, ck, cols, hm, hD, hl, hO⟩
      have sK : Sub nw5 nw11 := by tb_start
      nest_room
      refine Go.right (scols := cols3 w0 w1) G3 (S5.to sK) (T5.to sK) rfl (cols3_ok hw0 hw1) hm hD (by kpr_short) (fun x hx => (hO x hx).1) (fun x hx => (hO x hx).2) (by ktr_room) (by ktr_room) ?_
      intro nw12 t12 s12
      nest_room
      refine Go.sel G3 (by ktr_room) (by ktr_room) ?_
      intro nw13 t13 s13
      nest_room
      exact ⟨by tb_start, by tb_start⟩
end
end
section
section
variable {sc : Scope} {c : Cx} {m : Lc} {nw : Led} {t t' : Nat}
theorem Go.law {sl : Addr} {vs : List Value} {ns : List Int} {sc0 : Scope} {s0 s1 s2 s3 s4 s5 s6 : Stmt} (hsc : lawS = some sc0) (h0 : lawB 0 = some s0) (h1 : lawB 1 = some s1) (h2 : lawB 2 = some s2) (h3 : lawB 3 = some s3) (h4 : lawB 4 = some s4) (h5 : lawB 5 = some s5) (h6 : lawB 6 = some s6)
    (hls : c.h₀.IsList sl vs.toArray) (hi : IntsAre vs ns) (hn : ns.length ≤ 63) (hG : c.G = fun g => g = []) (hf : c.fsc = none) (hm : m (Str.ofString "script") = some (.ref sl)) (hdp : c.dp + 50 < recursionLimit) (hun : c.un + 5000 < cLine) :
    Go sc0 c (execs [s0, s1, s2, s3, s4, s5, s6] (c.env sc0)) m nw t fun fl _ _ _ => fl = .ret (.bool true) := by
  have e1 := lawS_at
  dsimp only [ddV] at e1
  have hsc9 := hsc
  rw [e1] at hsc
  cases hsc
  have e2 : lawB 0 = some _ := (lawB_at 0).trans rfl
  rw [e2] at h0
  cases h0
  clear e1 e2
  nest_room
  refine Go.lsrc (by tb_start) (by decide +kernel) (by decide +kernel) (.inr (.inl (by decide +kernel))) (.inl (by decide +kernel)) (by ktr_room) (by ktr_room) ?_
  intro so tb nw1 t1 q1 S1 T1
  nest_room
  refine Go.test1 hsc9 h1 h2 (S1.to (by tb_start)) (T1.to (by tb_start)) (ins_mk (by tb_start) (by tb_start) (by with_reducible assumption)) (by tb_start) (by tb_start) (by tb_start) (by tb_start) (by tb_start) (by ktr_room) (by ktr_room) ?_
  intro m2 nw2 t2 q2 hm2
  refine Go.test2 hsc9 h3 h4 (S1.to (by tb_start)) (T1.to (by tb_start)) (ins_mk (by tb_start) (by tb_start) (by with_reducible assumption)) (by tb_start) (by tb_start) (by tb_start) ((hm2 _ (by decide +kernel)).trans (by tb_start)) ((hm2 _ (by decide +kernel)).trans (by tb_start)) (by ktr_room) (by ktr_room) ?_
  intro m3 nw3 t3 q3 hm3
  refine Go.loop hsc9 h5 hls hi hn hG hf ((hm3 _ (by decide +kernel)).trans ((hm2 _ (by decide +kernel)).trans (by tb_start))) (by ktr_room) (by ktr_room) ?_
  intro m4 nw4 t4
  have e2 : lawB 6 = some _ := (lawB_at 6).trans rfl
  rw [e2] at h6
  cases h6
  nest_room
  rfl
end
end
section
theorem in_of {w : World} {h : Heap} (Y : (hook gk.heap_1 AS as_ok al_ok).says w h) : (gk.heap_1 w.params).In h := Y
local macro_rules | `(tactic| k_go0) => `(tactic| (k_fill; intro w s₀ s₁ mg mb G Y fa o pm cd doc dV kV ho hd hcd hD hmg hg args vals as hpre hlay hrd hwl hlo; (have KX := in_of Y); k_behind G ho hd hcd hD hmg hpre hlay hrd hwl hlo cd))
theorem walk.tw17874285139861261050 : True := trivial
set_option Elab.async true in
theorem walk : TT := by
  intro d kwd hd9
  have e9 := ddV.2
  dsimp only [ddV] at e9
  rw [e9] at hd9
  cases hd9
  clear e9
  (k_go0; (all_goals try k_fold))
  rename Below _ _ _ _ => B9
  rename Top _ _ _ _ _ _ => T9
  rename (Fr _ _ _ _) => F9
  rename News _ _ _ _ => N9
  rename (Heap.IsList _ _ _) => hls
  rename IntsAre _ _ => hi
  rename (Frag.In _ _) => KX
  refine wpAny_mono (E := NoE) ?_ (fun _ _ z => z) (fun _ _ z => z.elim)
  refine Go.law (c := { prog := _, w := _, p := _, loose := _, mean := _, mg := _, mb := _, A₀ := _, base := _, outer := [], dp := _, un := _, gd := _, cn := Str.ofString "law", ca := _, ccd := _, cl := [], h₀ := _, L := _, fsc := none, fL := _, fcl := [], fn := some _, B := B9, X := KX, T := T9, G := fun g => g = [], H := fun l => l = [], fw := .inl ⟨rfl, rfl, rfl⟩ }) (lawS_at.trans rfl) ((lawB_at 0).trans rfl) ((lawB_at 1).trans rfl) ((lawB_at 2).trans rfl) ((lawB_at 3).trans rfl) ((lawB_at 4).trans rfl) ((lawB_at 5).trans rfl) ((lawB_at 6).trans rfl) hls hi (by omega) rfl rfl ?m9 ?d9 ?u9 _ _ rfl rfl F9 ⟨[], ⟨[], [], rfl, rfl, rfl, fun _ h => nomatch h⟩, N9, fun _ h => nomatch h⟩ ?k9
  case m9 => exact rfl
  case d9 => show callerA.depth + 1 + 50 < recursionLimit; decide +kernel
  case u9 => show callerA.units + 3 + 5000 < cLine; decide +kernel
  case k9 =>
    intro fl h' m' nw' t' F' I' r
    subst r
    dsimp only
    w_strict k_steps
end

namespace hd
theorem tw11942693397608355085 : True := trivial
theorem tw6818987989461384207 : True := trivial
theorem tw14143348200573808938 : True := trivial
theorem tw1810128313956251070 : True := trivial
theorem tw2845207389951388047 : True := trivial
theorem tw5322579261384874668 : True := trivial
theorem tw4975429006339234634 : True := trivial
theorem tw17087091549796120035 : True := trivial
theorem tw6924109203229866365 : True := trivial
theorem tw15616948245753086127 : True := trivial
theorem tw8587404781116728655 : True := trivial
theorem tw13293453174229064190 : True := trivial
theorem tw7519716089354478335 : True := trivial
theorem tw14892549342360969540 : True := trivial
theorem tw978945382295711627 : True := trivial
theorem tw7523672394736509286 : True := trivial
theorem tw11034497122203965937 : True := trivial
theorem tw4190841065721620706 : True := trivial
theorem tw4065347644161347641 : True := trivial
theorem tw6293948785866598258 : True := trivial
theorem tw5961118342813265553 : True := trivial
theorem tw9641152695372364146 : True := trivial
theorem tw18185175575083235020 : True := trivial
theorem tw17325209927041812611 : True := trivial
theorem tw5927261373498026823 : True := trivial
theorem tw11128854368766332075 : True := trivial
theorem tw12591134339009171964 : True := trivial
theorem tw4138081844389336918 : True := trivial
theorem tw17076082267592564974 : True := trivial
theorem tw11407884054146074569 : True := trivial
theorem tw3722166409189360004 : True := trivial
theorem tw14830267203646239459 : True := trivial
theorem tw4377701919642642989 : True := trivial
theorem tw13468300074154594103 : True := trivial
theorem tw13478424178397462001 : True := trivial
theorem tw16246848685605474055 : True := trivial
theorem tw8068729725432388964 : True := trivial
theorem tw9258712216579463092 : True := trivial
theorem tw9215827820722605749 : True := trivial
theorem tw4367455430839740993 : True := trivial
theorem tw10216474801634566288 : True := trivial
theorem tw13599939671180243173 : True := trivial
theorem tw651126834518081296 : True := trivial
theorem tw2839761810297210574 : True := trivial
theorem tw5148922909946612681 : True := trivial
theorem tw12414669353804360901 : True := trivial
theorem tw18368451091360184599 : True := trivial
theorem tw5781342201191254626 : True := trivial
theorem tw17711083657039698284 : True := trivial
theorem tw16302227732802510677 : True := trivial
theorem tw4126306136578151734 : True := trivial
theorem tw5289708365253275695 : True := trivial
theorem tw12631932088317031055 : True := trivial
theorem tw137786328141462057 : True := trivial
theorem tw14176624398918483544 : True := trivial
theorem tw14078009766183191694 : True := trivial
theorem tw15043168886218598503 : True := trivial
theorem tw10185585757203709587 : True := trivial
theorem tw12995909851351757392 : True := trivial
theorem tw15179676742415161110 : True := trivial
theorem tw2448417245163862455 : True := trivial
theorem tw6990203504111849199 : True := trivial
theorem tw10752148897807903841 : True := trivial
theorem tw2867327485932766208 : True := trivial
theorem tw10026777125879992224 : True := trivial
theorem tw16649331688326792143 : True := trivial
theorem tw15103106377680225435 : True := trivial
theorem tw960944832710211464 : True := trivial
theorem tw3259873300814134281 : True := trivial
theorem tw697623264460660564 : True := trivial
theorem tw7793673504863384051 : True := trivial
theorem tw17312999752573914782 : True := trivial
theorem tw3513125359445811510 : True := trivial
theorem tw2468469042602058204 : True := trivial
theorem tw13372043803930879067 : True := trivial
theorem tw10595968288072337780 : True := trivial
theorem tw4856431653887292112 : True := trivial
theorem tw307737655149646647 : True := trivial
theorem tw12669576375859063689 : True := trivial
theorem tw14454528878903484812 : True := trivial
theorem tw3953601041324332601 : True := trivial
theorem tw6046454685291232161 : True := trivial
theorem tw2216850387143573719 : True := trivial
theorem tw10543509907540572799 : True := trivial
theorem tw12769127236821124696 : True := trivial
theorem tw15427206886491885616 : True := trivial
theorem tw6709418730364537143 : True := trivial
theorem tw7752569895197466512 : True := trivial
theorem tw18241275227582772068 : True := trivial
theorem tw5592360268479517082 : True := trivial
theorem tw9077708301081682751 : True := trivial
theorem tw17471934795394947791 : True := trivial
theorem tw10654345511274693656 : True := trivial
theorem tw13066319289922817542 : True := trivial
theorem tw368366308016060594 : True := trivial
theorem tw14896477498954680388 : True := trivial
theorem tw14727110085682223627 : True := trivial
theorem tw1445366717492459972 : True := trivial
theorem tw6998783941825042932 : True := trivial
theorem tw4724112764586752083 : True := trivial
theorem tw8801323125487838256 : True := trivial
theorem tw10495675054343022301 : True := trivial
theorem tw12509009523430927325 : True := trivial
theorem tw9087110039335098043 : True := trivial
theorem tw16772102934027710169 : True := trivial
theorem tw12936449754285732098 : True := trivial
theorem tw13330244855972007585 : True := trivial
theorem tw17599816209265215132 : True := trivial
theorem tw14969688514271112891 : True := trivial
theorem tw2114630138375439770 : True := trivial
theorem tw10012880186880212623 : True := trivial
theorem tw7752767780024739350 : True := trivial
theorem tw17577478241444706838 : True := trivial
theorem tw17583924267553061668 : True := trivial
theorem tw17650839729002327288 : True := trivial
theorem tw7185752278333246451 : True := trivial
theorem tw7540741092611519060 : True := trivial
theorem tw12092154237167983948 : True := trivial
theorem tw732345407407602841 : True := trivial
theorem tw8053944837975664402 : True := trivial
theorem tw17495340751864218003 : True := trivial
theorem tw6528754448969337418 : True := trivial
theorem tw16957190012819468567 : True := trivial
theorem tw5010264101278932077 : True := trivial
theorem tw16464424236575238572 : True := trivial
theorem tw1414735120719159333 : True := trivial
theorem tw14598272352848978880 : True := trivial
theorem tw9429285754427346401 : True := trivial
theorem tw4299596416071116603 : True := trivial
theorem tw16357263729072622229 : True := trivial
theorem tw10394809344550953237 : True := trivial
theorem tw5373601922739893978 : True := trivial
theorem tw17447410573909459338 : True := trivial
theorem tw8770205317985620760 : True := trivial
theorem tw7540655947842036084 : True := trivial
theorem tw7854228177987924090 : True := trivial
theorem tw14353793391729792155 : True := trivial
theorem tw6902198413751149823 : True := trivial
theorem tw4014540891139286612 : True := trivial
theorem tw7080932558258925280 : True := trivial
theorem tw7354087734392854552 : True := trivial
theorem tw5567388512258382067 : True := trivial
theorem tw3504079246686126755 : True := trivial
theorem tw8015326511298524721 : True := trivial
theorem tw7746578258024575070 : True := trivial
theorem tw12588582704262371052 : True := trivial
theorem tw13064122474441708322 : True := trivial
theorem tw12035623454917710897 : True := trivial
theorem tw1811199898794616982 : True := trivial
theorem tw5282504435634884242 : True := trivial
theorem tw11893437276241958245 : True := trivial
theorem tw11953376511379268794 : True := trivial
theorem tw1382963296337349011 : True := trivial
theorem tw4867443594122359892 : True := trivial
theorem tw3182187488490625086 : True := trivial
theorem tw18300207936620678264 : True := trivial
theorem tw6615017456252778612 : True := trivial
theorem tw15368132723985388332 : True := trivial
theorem tw10111616816639369327 : True := trivial
theorem tw18406568778348887127 : True := trivial
theorem tw13518370688599389936 : True := trivial
theorem tw13342606739435360313 : True := trivial
theorem tw11249132867342737325 : True := trivial
theorem tw5363564295841288755 : True := trivial
theorem tw13463106324228987060 : True := trivial
theorem tw4218252797249083135 : True := trivial
theorem tw17570734847185409352 : True := trivial
theorem tw13919464512627920130 : True := trivial
theorem tw7891253978561527248 : True := trivial
theorem tw2167537188350426706 : True := trivial
theorem tw5278057926702712004 : True := trivial
theorem tw13903934854276604550 : True := trivial
theorem tw15054049728407801353 : True := trivial
theorem tw3443669649825651883 : True := trivial
theorem tw6423634429210846174 : True := trivial
theorem tw12131494931117144662 : True := trivial
theorem tw3915529967508079626 : True := trivial
theorem tw4817003022231809500 : True := trivial
theorem tw17784710179527947834 : True := trivial
theorem tw3890083515106143593 : True := trivial
theorem tw7698358502638924378 : True := trivial
theorem tw6482722132109649516 : True := trivial
theorem tw2394040479862359591 : True := trivial
theorem tw12144539148655541378 : True := trivial
theorem tw3480954088277226078 : True := trivial
theorem tw16502264421070913907 : True := trivial
theorem tw5464967688985200232 : True := trivial
theorem tw11912922877643110818 : True := trivial
theorem tw5464280966869935822 : True := trivial
theorem tw1448358952932078338 : True := trivial
theorem tw9271970288684553227 : True := trivial
theorem tw13609717118414637909 : True := trivial
theorem tw17994825080979385314 : True := trivial
theorem tw3969467460574380271 : True := trivial
theorem tw6636792957720756321 : True := trivial
theorem tw2799716289819351777 : True := trivial
theorem tw7082855905992002993 : True := trivial
theorem tw16977740526488267729 : True := trivial
theorem tw11631869004601391166 : True := trivial
theorem tw14400467628812073631 : True := trivial
theorem tw7815354588672045779 : True := trivial
theorem tw4478964076566166474 : True := trivial
theorem tw13566260322249332789 : True := trivial
theorem tw2960447077969926378 : True := trivial
theorem tw6761669909254768831 : True := trivial
theorem tw3312855554403267510 : True := trivial
theorem tw10273187271170590260 : True := trivial
theorem tw10111801491309104144 : True := trivial
theorem tw6982297934935202809 : True := trivial
theorem tw4768578896829404305 : True := trivial
theorem tw17454471701868102899 : True := trivial
theorem tw10031445930688152421 : True := trivial
theorem tw17668637344460488510 : True := trivial
theorem tw2871226400543044806 : True := trivial
theorem tw5715356086224469760 : True := trivial
theorem tw15931116738044738221 : True := trivial
theorem tw17232729238497989147 : True := trivial
theorem tw7792395482447073224 : True := trivial
theorem tw7626941382939369770 : True := trivial
theorem tw14294001040229213422 : True := trivial
theorem tw10525666975642140466 : True := trivial
theorem tw17217394356764393341 : True := trivial
theorem tw7510230149288206974 : True := trivial
theorem tw8493152586797012548 : True := trivial
theorem tw2502866573005156581 : True := trivial
theorem tw17273587926920868623 : True := trivial
theorem tw12901994302517312135 : True := trivial
theorem tw6819123309680001836 : True := trivial
theorem tw7481853956197565733 : True := trivial
theorem tw1299046323782801668 : True := trivial
theorem tw3291281947507527901 : True := trivial
theorem tw5987830557187376847 : True := trivial
theorem tw11866499799400129682 : True := trivial
theorem tw2195365466389143174 : True := trivial
theorem tw15228807520496212463 : True := trivial
theorem tw13225837485096350037 : True := trivial
theorem tw1208734638264122097 : True := trivial
theorem tw7628703163842673926 : True := trivial
theorem tw16037735763661986305 : True := trivial
theorem tw9516743096105243765 : True := trivial
theorem tw3759623122121258479 : True := trivial
theorem tw6596136833678090234 : True := trivial
theorem tw5490696432328200686 : True := trivial
theorem tw12232750017996463310 : True := trivial
theorem tw8450674356893351874 : True := trivial
theorem tw13218659294841961345 : True := trivial
theorem tw5873113503399164460 : True := trivial
theorem tw1088296927520436173 : True := trivial
theorem tw1865391376527767206 : True := trivial
theorem tw5513025101015932971 : True := trivial
theorem tw16155205043701107222 : True := trivial
theorem tw11399449904127653305 : True := trivial
theorem tw8117029840178788049 : True := trivial
theorem tw8545014587354053640 : True := trivial
theorem tw9427301549700849589 : True := trivial
theorem tw6903541053762270361 : True := trivial
theorem tw17143746779515762356 : True := trivial
theorem tw9421340871869096474 : True := trivial
theorem tw7610815399733428385 : True := trivial
theorem tw1882180444382439491 : True := trivial
theorem tw7292484366425897655 : True := trivial
theorem tw11841407262063887625 : True := trivial
theorem tw701787995468756871 : True := trivial
theorem tw11636924220087485885 : True := trivial
theorem tw12050417470231563642 : True := trivial
theorem tw7914949630228597729 : True := trivial
theorem tw6646985988748340704 : True := trivial
theorem tw5360435025570183010 : True := trivial
theorem tw13474097485772985973 : True := trivial
theorem tw7676003278276379012 : True := trivial
theorem tw7657299143145469618 : True := trivial
theorem tw4292457097857839397 : True := trivial
theorem tw2520547789009102003 : True := trivial
theorem tw11672842613191775419 : True := trivial
theorem tw3922637787740509324 : True := trivial
theorem tw190519026028168232 : True := trivial
theorem tw2546602858889406552 : True := trivial
theorem tw3880160440128983586 : True := trivial
theorem tw16056359734778111409 : True := trivial
theorem tw11623594800819314181 : True := trivial
theorem tw920214292312260371 : True := trivial
theorem tw9277588360372424766 : True := trivial
theorem tw8654268224221117138 : True := trivial
theorem tw9048539425550374019 : True := trivial
theorem tw8773699223549846113 : True := trivial
theorem tw17047115858639842297 : True := trivial
theorem tw17420951861521290806 : True := trivial
theorem tw266627367137399047 : True := trivial
theorem tw5978321128707920903 : True := trivial
theorem tw6060742912462422084 : True := trivial
theorem tw1118553966540926140 : True := trivial
theorem tw5791856155091588825 : True := trivial
theorem tw2263123870574935043 : True := trivial
theorem tw9783614193127449063 : True := trivial
theorem tw14586822029978311858 : True := trivial
theorem tw3787991596828424046 : True := trivial
theorem tw8424336660254810589 : True := trivial
theorem tw5635641802508607975 : True := trivial
theorem tw16823583209533085739 : True := trivial
theorem tw13483081372092288885 : True := trivial
theorem tw9856076609091502283 : True := trivial
theorem tw17655025648336401564 : True := trivial
theorem tw4706079058837389440 : True := trivial
theorem tw14060154772996877548 : True := trivial
theorem tw8191903926673212241 : True := trivial
theorem tw8308617851876039765 : True := trivial
theorem tw6372862494175223470 : True := trivial
theorem tw17335414052712997756 : True := trivial
theorem tw7654286748164834634 : True := trivial
theorem tw5293500477943481205 : True := trivial
theorem tw6352655612330318208 : True := trivial
theorem tw9244321171653502345 : True := trivial
theorem tw2274498078352570744 : True := trivial
theorem tw8538877666451538035 : True := trivial
theorem tw4993660671451451078 : True := trivial
theorem tw3673089383077640791 : True := trivial
theorem tw6374767894290048045 : True := trivial
theorem tw3085183777334472315 : True := trivial
theorem tw2134215046882385847 : True := trivial
theorem tw5318216170032084099 : True := trivial
theorem tw574300837803046910 : True := trivial
theorem tw1129884963351977449 : True := trivial
theorem tw13944508082162953488 : True := trivial
theorem tw17628472586750557451 : True := trivial
theorem tw7712819752767893495 : True := trivial
theorem tw1563692795949630186 : True := trivial
theorem tw5716766192118558609 : True := trivial
theorem tw2336748640663733628 : True := trivial
theorem tw16006246977917349235 : True := trivial
theorem tw6830512106363814048 : True := trivial
theorem tw13855946660403688772 : True := trivial
theorem tw5245234834050458271 : True := trivial
theorem tw7541792107247259296 : True := trivial
theorem tw10258999931320997221 : True := trivial
theorem tw13534587687697041467 : True := trivial
theorem tw10170382586518783626 : True := trivial
theorem tw2284436838669742495 : True := trivial
theorem tw6988595667528144454 : True := trivial
theorem tw15963624873386084050 : True := trivial
theorem tw8351282476255451920 : True := trivial
theorem tw16794629799341752650 : True := trivial
theorem tw16412773359747925120 : True := trivial
theorem tw10947331860392259696 : True := trivial
theorem tw17673860158736603733 : True := trivial
theorem tw16227762859984022837 : True := trivial
theorem tw14914937398881237230 : True := trivial
theorem tw10403243965636340961 : True := trivial
theorem tw4225703048834024713 : True := trivial
theorem tw1377507128560176533 : True := trivial
theorem tw12976082216212581069 : True := trivial
theorem tw15415191866313429237 : True := trivial
theorem tw9557236495431379559 : True := trivial
theorem tw9753359207989701909 : True := trivial
theorem tw4172343393113369950 : True := trivial
theorem tw7366208706002141716 : True := trivial
theorem tw4015398097383911347 : True := trivial
theorem tw12393119488966705847 : True := trivial
theorem tw15277330632498426303 : True := trivial
theorem tw16945582573551092051 : True := trivial
theorem tw1425423193147277237 : True := trivial
theorem tw3828038474966422129 : True := trivial
theorem tw9983964734214183352 : True := trivial
theorem tw17386561741084979693 : True := trivial
theorem tw6109525258741381055 : True := trivial
theorem tw15987713032478767096 : True := trivial
theorem tw8004679753235328684 : True := trivial
theorem tw11425919449921108762 : True := trivial
theorem tw881544763273948857 : True := trivial
theorem tw17130151131035750659 : True := trivial
theorem tw14040608126747316905 : True := trivial
theorem tw16853341256802265648 : True := trivial
theorem tw8898355551111435312 : True := trivial
theorem tw2595994805191909183 : True := trivial
theorem tw13217225542625558698 : True := trivial
theorem tw18330183385023645277 : True := trivial
theorem tw9386895884608548742 : True := trivial
theorem tw11213053971927718326 : True := trivial
theorem tw13458954166980676860 : True := trivial
theorem tw9325612240067072397 : True := trivial
theorem tw13001811119718631651 : True := trivial
theorem tw3876449026389394717 : True := trivial
theorem tw9927179837433541088 : True := trivial
theorem tw1588505670450824345 : True := trivial
theorem tw13624431586668435662 : True := trivial
theorem tw4523669819894539328 : True := trivial
theorem tw14768889098011018680 : True := trivial
theorem tw15766875824913328220 : True := trivial
theorem tw17002781174329755331 : True := trivial
theorem tw3215350286424857435 : True := trivial
theorem tw13638418597567726942 : True := trivial
theorem tw1511243299971373483 : True := trivial
theorem tw3381375190539634487 : True := trivial
theorem tw9983995961361265002 : True := trivial
theorem tw10905181550472923540 : True := trivial
theorem tw17986969038992634876 : True := trivial
theorem tw13672510800482105167 : True := trivial
theorem tw13828106393651249627 : True := trivial
theorem tw6906073325868019850 : True := trivial
theorem tw2000490053193787569 : True := trivial
theorem tw16009884308244765898 : True := trivial
theorem tw16473244170626142550 : True := trivial
theorem tw4851647983119433812 : True := trivial
theorem tw14817486215969520457 : True := trivial
theorem tw226724450230711188 : True := trivial
theorem tw13155780701260043360 : True := trivial
theorem tw16158619036321959407 : True := trivial
theorem tw6186238094035137676 : True := trivial
theorem tw14960593345356199642 : True := trivial
theorem tw4182648748547736412 : True := trivial
theorem tw10743916045514856203 : True := trivial
theorem tw16138627921320673191 : True := trivial
theorem tw10784824025267889561 : True := trivial
theorem tw15508949281206285077 : True := trivial
theorem tw13171141561276507362 : True := trivial
theorem tw10944956837784636368 : True := trivial
theorem tw4725425184044842548 : True := trivial
theorem tw17172931820748874959 : True := trivial
theorem tw2304311442786299043 : True := trivial
theorem tw8803977449572941912 : True := trivial
theorem tw4272726840584523970 : True := trivial
theorem tw3109861748172591687 : True := trivial
theorem tw16257038226119295666 : True := trivial
theorem tw12487502673411948298 : True := trivial
theorem tw5135410709514514960 : True := trivial
theorem tw8652628183442184457 : True := trivial
theorem tw12453114486196615683 : True := trivial
theorem tw15595854959937240912 : True := trivial
theorem tw18439511094173506614 : True := trivial
theorem tw15083628210047938546 : True := trivial
theorem tw17950676927832955104 : True := trivial
theorem tw16169374299450900766 : True := trivial
theorem tw4527685146903026889 : True := trivial
theorem tw11415386828835887437 : True := trivial
theorem tw13642289790063256904 : True := trivial
theorem tw7175568609137494628 : True := trivial
theorem tw6679266806504041263 : True := trivial
theorem tw6898005170327248138 : True := trivial
theorem tw8377043916266704855 : True := trivial
theorem tw10458740792067480800 : True := trivial
theorem tw16742648372681657963 : True := trivial
theorem tw128412058910260475 : True := trivial
theorem tw16936856274547049314 : True := trivial
theorem tw1506431575118746342 : True := trivial
theorem tw13866372431405929976 : True := trivial
theorem tw8887996145723391905 : True := trivial
theorem tw4449123307109862055 : True := trivial
theorem tw8044012406986999415 : True := trivial
theorem tw17640862679970642326 : True := trivial
theorem tw12353913968525425643 : True := trivial
theorem tw8589211134812392127 : True := trivial
theorem tw5715734110848049390 : True := trivial
theorem tw15889433306838628275 : True := trivial
theorem tw8945485805214734075 : True := trivial
theorem tw17213754286329925777 : True := trivial
theorem tw12331051067403766639 : True := trivial
theorem tw1954808003864357339 : True := trivial
theorem tw4643362625855044894 : True := trivial
theorem tw14333710738500927179 : True := trivial
theorem tw1045484448516176895 : True := trivial
theorem tw16091413853298234908 : True := trivial
theorem tw2616952524820836436 : True := trivial
theorem tw2781682124601125471 : True := trivial
theorem tw13931416462566266981 : True := trivial
theorem tw3530705653197291679 : True := trivial
theorem tw10531373872144210542 : True := trivial
theorem tw16904818350239718627 : True := trivial
theorem tw9330823016148744750 : True := trivial
theorem tw4282304852377368616 : True := trivial
theorem tw1712922718373300912 : True := trivial
theorem tw9013056391748086436 : True := trivial
theorem tw13322179722446271537 : True := trivial
theorem tw11434409384045074295 : True := trivial
theorem tw2371736936440567457 : True := trivial
theorem tw6820862383352777685 : True := trivial
theorem tw1331487369976884630 : True := trivial
theorem tw402640490398009360 : True := trivial
theorem tw2951005344575393816 : True := trivial
theorem tw4946210868454251104 : True := trivial
theorem tw12364972598781006883 : True := trivial
theorem tw7655175358880308525 : True := trivial
theorem tw7763873220885509757 : True := trivial
theorem tw13840357560478945406 : True := trivial
theorem tw6882427118574961969 : True := trivial
theorem tw8151903124980380684 : True := trivial
theorem tw15642763164714097627 : True := trivial
theorem tw6276725880618359904 : True := trivial
theorem tw12114786419227108663 : True := trivial
theorem tw15279998641719260112 : True := trivial
theorem tw9238262914530080051 : True := trivial
theorem tw17989097746536338734 : True := trivial
theorem tw15102309248680683417 : True := trivial
theorem tw3010559952403784203 : True := trivial
theorem tw5505005885091257285 : True := trivial
theorem tw6780557218761844654 : True := trivial
theorem tw617508947420966582 : True := trivial
theorem tw3364418463632694928 : True := trivial
theorem tw18293851220164018083 : True := trivial
theorem tw1936894748134917147 : True := trivial
theorem tw7691918140598264929 : True := trivial
theorem tw13466754112058979494 : True := trivial
theorem tw9631708518359487223 : True := trivial
theorem tw16853252838358632063 : True := trivial
theorem tw858883931015391567 : True := trivial
theorem tw10788059911547816233 : True := trivial
theorem tw503842035214351869 : True := trivial
theorem tw714852897916480489 : True := trivial
theorem tw15643275761693703936 : True := trivial
theorem tw10781468475247234061 : True := trivial
theorem tw13431754692932380062 : True := trivial
theorem tw11749099774412794130 : True := trivial
theorem tw5433107678231618845 : True := trivial
theorem tw11852641145169952659 : True := trivial
theorem tw10210669037155785340 : True := trivial
theorem tw1364226383887757360 : True := trivial
theorem tw13092906067662860646 : True := trivial
theorem tw5174551420813472067 : True := trivial
theorem tw10259988299927297344 : True := trivial
theorem tw15675198926951892251 : True := trivial
theorem tw1610171440888473627 : True := trivial
theorem tw9170477692918782315 : True := trivial
theorem tw4478177076189095293 : True := trivial
theorem tw15967140613478806237 : True := trivial
theorem tw12970310613348327589 : True := trivial
theorem tw16194383521188589630 : True := trivial
theorem tw1699103778626983548 : True := trivial
theorem tw432457690288141553 : True := trivial
theorem tw1736311965527578767 : True := trivial
theorem tw189712035060473897 : True := trivial
theorem tw11210553801493137410 : True := trivial
theorem tw7361146020926269831 : True := trivial
theorem tw5574845727924001799 : True := trivial
theorem tw11507959949525687343 : True := trivial
theorem tw17387473266821786944 : True := trivial
theorem tw10933677585905718993 : True := trivial
theorem tw6123773746684550334 : True := trivial
theorem tw1247026723315081023 : True := trivial
theorem tw7068711184596962023 : True := trivial
theorem tw4367231431732253908 : True := trivial
theorem tw13285133528070534704 : True := trivial
theorem tw3173010612589774626 : True := trivial
theorem tw1413172679324656950 : True := trivial
theorem tw15591429051563716170 : True := trivial
theorem tw663384727985864361 : True := trivial
theorem tw13160604113216922460 : True := trivial
theorem tw3039998526598829958 : True := trivial
theorem tw9719896912496429819 : True := trivial
theorem tw5902613922787404954 : True := trivial
theorem tw9908193460736022307 : True := trivial
theorem tw6295535725891239091 : True := trivial
theorem tw16919406825032445293 : True := trivial
theorem tw11115866451450875312 : True := trivial
theorem tw17470177872615007328 : True := trivial
theorem tw825126770350376351 : True := trivial
theorem tw10841399608879689956 : True := trivial
theorem tw11713075325732132258 : True := trivial
theorem tw3920623390966001496 : True := trivial
theorem tw17992873397187703194 : True := trivial
theorem tw4521580383011477154 : True := trivial
theorem tw14205177575709318024 : True := trivial
theorem tw9731375825926819010 : True := trivial
theorem tw14567429538950270057 : True := trivial
theorem tw1580110805410547442 : True := trivial
theorem tw14743440263598761229 : True := trivial
theorem tw2295870552580634182 : True := trivial
theorem tw10583446816852156582 : True := trivial
theorem tw6957150274394394060 : True := trivial
theorem tw10030107230732127627 : True := trivial
theorem tw12949589719889679912 : True := trivial
theorem tw8879563391730754479 : True := trivial
theorem tw250903467453971090 : True := trivial
theorem tw8268277133935991078 : True := trivial
theorem tw18233516762306594366 : True := trivial
theorem tw13172843250190940813 : True := trivial
theorem tw4432475053497693458 : True := trivial
theorem tw8242931771332617035 : True := trivial
theorem tw1033889070964956483 : True := trivial
theorem tw2900905267640511130 : True := trivial
theorem tw3419581819265744254 : True := trivial
theorem tw10024716035694756283 : True := trivial
theorem tw3941438180925939637 : True := trivial
theorem tw7076163891533521732 : True := trivial
theorem tw10246146449241189800 : True := trivial
theorem tw12642813592246648485 : True := trivial
theorem tw1744074299117110578 : True := trivial
theorem tw11052946933831473538 : True := trivial
theorem tw5130813555471234732 : True := trivial
theorem tw5983496337302601536 : True := trivial
theorem tw3533295568840377906 : True := trivial
theorem tw7512474625130614241 : True := trivial
theorem tw4735155535324382492 : True := trivial
theorem tw12590977762386282803 : True := trivial
theorem tw15089522573102190283 : True := trivial
theorem tw14683707025165767436 : True := trivial
theorem tw11917015161858427179 : True := trivial
theorem tw7382370116671421104 : True := trivial
theorem tw9748044761591592747 : True := trivial
theorem tw6879831473291441079 : True := trivial
theorem tw33583606019346890 : True := trivial
theorem tw6643560872069290437 : True := trivial
theorem tw6506366617586733335 : True := trivial
theorem tw16154546982801380032 : True := trivial
theorem tw10292235466723388172 : True := trivial
theorem tw10286656452748174568 : True := trivial
theorem tw18166333605607142505 : True := trivial
theorem tw11024222330075796079 : True := trivial
theorem tw16552077313456050100 : True := trivial
theorem tw1184127607605381967 : True := trivial
theorem tw11513968764499736323 : True := trivial
theorem tw212345690472687942 : True := trivial
theorem tw16299908979028503884 : True := trivial
theorem tw10471273241005507999 : True := trivial
theorem tw1359830224848277088 : True := trivial
theorem tw12744807935193187038 : True := trivial
theorem tw11079593142295127227 : True := trivial
theorem tw12418435599462062936 : True := trivial
theorem tw37099724090138251 : True := trivial
theorem tw11054480109507316185 : True := trivial
theorem tw11631947586910100387 : True := trivial
theorem tw7072814226976595913 : True := trivial
theorem tw5220083430330967483 : True := trivial
theorem tw9864973744126774698 : True := trivial
theorem tw2386827423013361158 : True := trivial
theorem tw11595982170579460384 : True := trivial
theorem tw13389116031464166691 : True := trivial
theorem tw100483095206116625 : True := trivial
theorem tw5480042469492414594 : True := trivial
theorem tw10763509664835889504 : True := trivial
theorem tw6627881031435992008 : True := trivial
theorem tw16634568088961857937 : True := trivial
theorem tw12976186185376257304 : True := trivial
theorem tw7174315439194531881 : True := trivial
theorem tw6164396464334811476 : True := trivial
theorem tw8770659054964912022 : True := trivial
theorem tw18245042118932799458 : True := trivial
theorem tw10919297434634762262 : True := trivial
theorem tw17919194246423945575 : True := trivial
theorem tw2580477087445282633 : True := trivial
theorem tw10847404155465417027 : True := trivial
theorem tw9702936160620672325 : True := trivial
theorem tw7872162285098387286 : True := trivial
theorem tw1870067075039425230 : True := trivial
theorem tw656455966557771466 : True := trivial
theorem tw16443024508289211202 : True := trivial
theorem tw14438451200097066615 : True := trivial
theorem tw16733963527221155113 : True := trivial
theorem tw7668181498733406534 : True := trivial
theorem tw15615537253650120727 : True := trivial
theorem tw15199589371867527261 : True := trivial
theorem tw6469175993241445255 : True := trivial
theorem tw7598622570094877466 : True := trivial
theorem tw4282359134580295075 : True := trivial
theorem tw7492944070806833698 : True := trivial
theorem tw15207398651663016943 : True := trivial
theorem tw8934143017859847078 : True := trivial
theorem tw6014424301940151174 : True := trivial
theorem tw12575139184659369484 : True := trivial
theorem tw15422856539912107476 : True := trivial
theorem tw11814627755841444246 : True := trivial
theorem tw1836080755315867724 : True := trivial
theorem tw17330945745186091897 : True := trivial
theorem tw14137390275340422267 : True := trivial
theorem tw1409312971732116557 : True := trivial
theorem tw16970440968685349367 : True := trivial
theorem tw11455265129680688558 : True := trivial
theorem tw8293946417935249925 : True := trivial
theorem tw14120982254508448379 : True := trivial
theorem tw11845739042510646663 : True := trivial
theorem tw12350410155528471161 : True := trivial
theorem tw13855881374063213867 : True := trivial
theorem tw1011335219593555734 : True := trivial
theorem tw5292301768408028288 : True := trivial
theorem tw243823211424636713 : True := trivial
theorem tw13347369733751428629 : True := trivial
theorem tw5899666649113621702 : True := trivial
theorem tw6683769817339685419 : True := trivial
theorem tw162610821266807592 : True := trivial
theorem tw7006195865600381663 : True := trivial
theorem tw1939978651307754801 : True := trivial
theorem tw1954109241102656831 : True := trivial
theorem tw8609351116199087170 : True := trivial
theorem tw6965799899956892507 : True := trivial
theorem tw18093812233618175256 : True := trivial
theorem tw3415780608434026743 : True := trivial
theorem tw13409441903868389331 : True := trivial
theorem tw6769732088879122475 : True := trivial
theorem tw5054737718236178183 : True := trivial
theorem tw16244189857310113590 : True := trivial
theorem tw17672654358674132775 : True := trivial
theorem tw4360684699965382250 : True := trivial
theorem tw9155422001095189878 : True := trivial
theorem tw12778418089203562962 : True := trivial
theorem tw8735263284916673568 : True := trivial
theorem tw13267510147771200024 : True := trivial
theorem tw11032806212648032379 : True := trivial
theorem tw14906377314874228009 : True := trivial
theorem tw15042006015671813226 : True := trivial
theorem tw6931407450589930559 : True := trivial
theorem tw8112040973832200146 : True := trivial
theorem tw15910714762333108613 : True := trivial
theorem tw257007361410690125 : True := trivial
theorem tw8312999807965096350 : True := trivial
theorem tw17491317419825422843 : True := trivial
theorem tw16694946328126371552 : True := trivial
theorem tw18343703819029505601 : True := trivial
theorem tw17681399029576232318 : True := trivial
theorem tw18152756486534528934 : True := trivial
theorem tw10203026625882799534 : True := trivial
theorem tw16156708551869547534 : True := trivial
theorem tw7640094616464845771 : True := trivial
theorem tw12940713784782232206 : True := trivial
theorem tw13277076834127875243 : True := trivial
theorem tw689954013368505116 : True := trivial
theorem tw13783031573616600631 : True := trivial
theorem tw12900700647772717614 : True := trivial
theorem tw14328484209623677503 : True := trivial
theorem tw15220180469806662145 : True := trivial
theorem tw3484992998616243462 : True := trivial
theorem tw7023726343779634624 : True := trivial
theorem tw5511420028821071320 : True := trivial
theorem tw16178712458983371728 : True := trivial
theorem tw13315533130655954831 : True := trivial
theorem tw7880807054014371918 : True := trivial
theorem tw15677629932584476913 : True := trivial
theorem tw11638043884434779313 : True := trivial
theorem tw3309697970292668127 : True := trivial
theorem tw1386097877827089520 : True := trivial
theorem tw12614811148066621264 : True := trivial
theorem tw14706022693812145444 : True := trivial
theorem tw12872897951434832890 : True := trivial
theorem tw2729298822523640997 : True := trivial
theorem tw6079173187612997037 : True := trivial
theorem tw12127338746724423809 : True := trivial
theorem tw4210835263042620578 : True := trivial
theorem tw6140570298594658328 : True := trivial
theorem tw9741134391959003819 : True := trivial
theorem tw11984409736253958808 : True := trivial
theorem tw1820180628909398317 : True := trivial
theorem tw15992342658441690333 : True := trivial
theorem tw14553816603554493358 : True := trivial
theorem tw5009564483982726761 : True := trivial
theorem tw17234923516513369237 : True := trivial
theorem tw10949625832625181284 : True := trivial
theorem tw8479784124755550697 : True := trivial
theorem tw1976262728313527643 : True := trivial
theorem tw17696971302532935780 : True := trivial
theorem tw11709330566771433103 : True := trivial
theorem tw2480057099694739299 : True := trivial
theorem tw15152743547302097792 : True := trivial
theorem tw15813434630575017362 : True := trivial
theorem tw5976792059365374437 : True := trivial
theorem tw16722109127936396110 : True := trivial
theorem tw5535567543195554156 : True := trivial
theorem tw3940546777539579641 : True := trivial
theorem tw12070654863422294720 : True := trivial
theorem tw9406673726873002282 : True := trivial
theorem tw11402939732021071671 : True := trivial
theorem tw5608270528595127837 : True := trivial
theorem tw867598499069673859 : True := trivial
theorem tw4878824753759274627 : True := trivial
theorem tw16713699803418581334 : True := trivial
theorem tw6555240042291301478 : True := trivial
theorem tw8977460988437922124 : True := trivial
theorem tw6411954120941647267 : True := trivial
theorem tw15625209780758371316 : True := trivial
theorem tw2001351230973187099 : True := trivial
theorem tw17649441919526076750 : True := trivial
theorem tw14168552714766633299 : True := trivial
theorem tw10792051664901133789 : True := trivial
theorem tw16759147789766475008 : True := trivial
theorem tw2391449824757734642 : True := trivial
theorem tw313027258313007627 : True := trivial
theorem tw16896567674234606475 : True := trivial
theorem tw17258206423299326598 : True := trivial
theorem tw11663481321943121269 : True := trivial
theorem tw15416985209724490359 : True := trivial
theorem tw6308581086252854402 : True := trivial
theorem tw12676414471582705871 : True := trivial
theorem tw7927469264209771579 : True := trivial
theorem tw3442329435671937591 : True := trivial
theorem tw15015030017634654800 : True := trivial
theorem tw9298403506768410418 : True := trivial
theorem tw6412770499399676944 : True := trivial
theorem tw6199765714743212253 : True := trivial
theorem tw12952509933414984302 : True := trivial
theorem tw11256106856564762260 : True := trivial
theorem tw16409295683739894939 : True := trivial
theorem tw3816877163431070358 : True := trivial
theorem tw8244750085871347745 : True := trivial
theorem tw11232374478483605306 : True := trivial
theorem tw7261450039545342454 : True := trivial
theorem tw10376703724636587151 : True := trivial
theorem tw6038821095411175016 : True := trivial
theorem tw9990345226319884068 : True := trivial
theorem tw10860895700388868024 : True := trivial
theorem tw16332618649321777385 : True := trivial
theorem tw546821695630378048 : True := trivial
theorem tw11587034568685482758 : True := trivial
theorem tw16211521421427940678 : True := trivial
theorem tw2442259710966052079 : True := trivial
theorem tw14029546391885035639 : True := trivial
theorem tw2999033326186475339 : True := trivial
theorem tw8664936974563722654 : True := trivial
theorem tw7369741819223213686 : True := trivial
theorem tw185848376630758926 : True := trivial
theorem tw16052320808349706082 : True := trivial
theorem tw17843490464661113860 : True := trivial
theorem tw5366084841770067474 : True := trivial
theorem tw8789358453043137523 : True := trivial
theorem tw14745743045033390146 : True := trivial
theorem tw17066044127408595049 : True := trivial
theorem tw5353885037153560940 : True := trivial
theorem tw1256466517863071783 : True := trivial
theorem tw4315991029959535628 : True := trivial
theorem tw15923250282426842828 : True := trivial
theorem tw6019021122589006684 : True := trivial
theorem tw14444963742821833902 : True := trivial
theorem tw4021928978595405253 : True := trivial
theorem tw1800889605409440832 : True := trivial
theorem tw4310969922304039945 : True := trivial
theorem tw9960721518486171458 : True := trivial
theorem tw7339039647409124788 : True := trivial
theorem tw11126320352707459272 : True := trivial
theorem tw13096558090100123544 : True := trivial
theorem tw1005483496087919985 : True := trivial
theorem tw17679848547673146604 : True := trivial
theorem tw7153062008950511462 : True := trivial
theorem tw13937860266046166849 : True := trivial
theorem tw10465514089279642386 : True := trivial
theorem tw16007149819294483003 : True := trivial
theorem tw5036846961687405229 : True := trivial
theorem tw8134915037123179040 : True := trivial
theorem tw845060206244984605 : True := trivial
theorem tw3044193314922437478 : True := trivial
theorem tw4730091804998409952 : True := trivial
theorem tw14579804019780415049 : True := trivial
theorem tw1728934660973012959 : True := trivial
theorem tw4734902545126651661 : True := trivial
theorem tw2139204274930982770 : True := trivial
theorem tw2855845756224970109 : True := trivial
theorem tw17903497710992402801 : True := trivial
theorem tw10365702040365258594 : True := trivial
theorem tw13929354066492186541 : True := trivial
theorem tw2483153086792340342 : True := trivial
theorem tw10934634478434655930 : True := trivial
theorem tw14151535006965253332 : True := trivial
theorem tw9422886751214467855 : True := trivial
theorem tw701333769924781912 : True := trivial
theorem tw9345929723534960622 : True := trivial
theorem tw14462709497994964445 : True := trivial
theorem tw2808349399557158395 : True := trivial
theorem tw3919010098100093602 : True := trivial
theorem tw6449127861642672459 : True := trivial
theorem tw17948085552500728524 : True := trivial
theorem tw12487542160262675636 : True := trivial
theorem tw15064902949301533346 : True := trivial
theorem tw5118731587858937692 : True := trivial
theorem tw10819331528351526247 : True := trivial
theorem tw11389486352061984695 : True := trivial
theorem tw561391293025646643 : True := trivial
theorem tw14776966858535155947 : True := trivial
theorem tw6834889102091611420 : True := trivial
theorem tw6877226645827823821 : True := trivial
theorem tw4074112789689628901 : True := trivial
theorem tw1760603350576429475 : True := trivial
theorem tw3008623586974134963 : True := trivial
theorem tw5927567313105069670 : True := trivial
theorem tw16920754564084929960 : True := trivial
theorem tw9617658007855726926 : True := trivial
theorem tw14673209030070457562 : True := trivial
theorem tw10491609206876299696 : True := trivial
theorem tw4819202231147424091 : True := trivial
theorem tw7829580234814923638 : True := trivial
theorem tw12579596248316191183 : True := trivial
theorem tw17975533764899295144 : True := trivial
theorem tw2505046432360240130 : True := trivial
theorem tw6804821044290156842 : True := trivial
theorem tw3536873572635521401 : True := trivial
theorem tw4111692666942324129 : True := trivial
theorem tw16868993833207775613 : True := trivial
theorem tw9330943631129107780 : True := trivial
theorem tw13011413612017729677 : True := trivial
theorem tw13321331477185743149 : True := trivial
theorem tw13893168526513508166 : True := trivial
theorem tw13363553139645760527 : True := trivial
theorem tw15946356160694317329 : True := trivial
theorem tw6759412095888398321 : True := trivial
theorem tw15213948185873263833 : True := trivial
theorem tw17881450898074093203 : True := trivial
theorem tw8458067239894703972 : True := trivial
theorem tw567884609423149705 : True := trivial
theorem tw8226494294326810461 : True := trivial
theorem tw10778013660560245624 : True := trivial
theorem tw16587392273704687506 : True := trivial
theorem tw15630680890609703042 : True := trivial
theorem tw5482205457738058418 : True := trivial
theorem tw11251137523995926341 : True := trivial
theorem tw16858285156579221889 : True := trivial
theorem tw17739348878880393726 : True := trivial
theorem tw5810065557313606291 : True := trivial
theorem tw11319892378374348655 : True := trivial
theorem tw7289601568589263668 : True := trivial
theorem tw15790720579355451973 : True := trivial
theorem tw3911173418732280352 : True := trivial
theorem tw10200926772931222457 : True := trivial
theorem tw1643121930917553208 : True := trivial
theorem tw3452082135128663414 : True := trivial
theorem tw7582013449568394955 : True := trivial
theorem tw13255428261173160881 : True := trivial
theorem tw2042292140826266357 : True := trivial
theorem tw728884934406724761 : True := trivial
theorem tw13628142620392400109 : True := trivial
theorem tw12611767792052310623 : True := trivial
theorem tw15687388767607454252 : True := trivial
theorem tw833173182276230429 : True := trivial
theorem tw17606422857730326317 : True := trivial
theorem tw14106227501169856981 : True := trivial
theorem tw16684818696116721337 : True := trivial
theorem tw9555612238305686254 : True := trivial
theorem tw6418103052136555383 : True := trivial
theorem tw7492773218913965947 : True := trivial
theorem tw2051048951616859547 : True := trivial
theorem tw1335065189686863947 : True := trivial
theorem tw3196399650302076718 : True := trivial
theorem tw13368278939475635651 : True := trivial
theorem tw17330132731328240911 : True := trivial
theorem tw16029623286316568529 : True := trivial
theorem tw17103042934961309479 : True := trivial
theorem tw10904933031377857372 : True := trivial
theorem tw18358800413957953924 : True := trivial
theorem tw155142512498542641 : True := trivial
theorem tw12254263087357419629 : True := trivial
theorem tw9459050058782445324 : True := trivial
theorem tw3451239065008710300 : True := trivial
theorem tw9341642984632610673 : True := trivial
theorem tw12704988097186499811 : True := trivial
theorem tw5859118754885311737 : True := trivial
theorem tw11319097763535126812 : True := trivial
theorem tw10738003575532504788 : True := trivial
theorem tw5329240090532326246 : True := trivial
theorem tw14623610509376584727 : True := trivial
theorem tw6407587892757256292 : True := trivial
theorem tw10955317050725887447 : True := trivial
theorem tw17034541987677670899 : True := trivial
theorem tw8184699220007379433 : True := trivial
theorem tw6213412439835118660 : True := trivial
theorem tw4086058157674990017 : True := trivial
theorem tw15033227074091944939 : True := trivial
theorem tw14446474709323646786 : True := trivial
theorem tw12239354291974867115 : True := trivial
theorem tw3333446698644548216 : True := trivial
theorem tw4958948430592982816 : True := trivial
theorem tw395138700845864316 : True := trivial
theorem tw11009480947453127740 : True := trivial
theorem tw2598446214317162929 : True := trivial
theorem tw17429513623812275283 : True := trivial
theorem tw10905682514733158466 : True := trivial
theorem tw7494724483528729301 : True := trivial
theorem tw242841246431481386 : True := trivial
theorem tw8472141830624432390 : True := trivial
theorem tw4159134105002834734 : True := trivial
theorem tw4363365295628954845 : True := trivial
theorem tw10102539355485613405 : True := trivial
theorem tw9228397985900620932 : True := trivial
theorem tw10195207025132199040 : True := trivial
theorem tw7031273417212677730 : True := trivial
theorem tw8457440626546761165 : True := trivial
theorem tw6082411064634330575 : True := trivial
theorem tw8269573656231971908 : True := trivial
theorem tw2799067240506288376 : True := trivial
theorem tw16157073509204512506 : True := trivial
theorem tw13531707123254989501 : True := trivial
theorem tw14984183105004643987 : True := trivial
theorem tw3571134770919094901 : True := trivial
theorem tw68257221557315278 : True := trivial
theorem tw4642405928176397000 : True := trivial
theorem tw15946388913382835224 : True := trivial
theorem tw13181700845877081190 : True := trivial
theorem tw15381450162410889989 : True := trivial
theorem tw16345102440705955213 : True := trivial
theorem tw12647368939536790636 : True := trivial
theorem tw18131696352309475102 : True := trivial
theorem tw5378308252288859171 : True := trivial
theorem tw7754304195085646258 : True := trivial
theorem tw1197925565968671727 : True := trivial
theorem tw11968265576560266318 : True := trivial
theorem tw15673258824015622330 : True := trivial
theorem tw17925215291927510665 : True := trivial
theorem tw11629707937479629763 : True := trivial
theorem tw8273930003744585626 : True := trivial
theorem tw11754176132448286083 : True := trivial
theorem tw18103420901670897651 : True := trivial
theorem tw3493717111155160527 : True := trivial
theorem tw8197050154876552520 : True := trivial
theorem tw2783992281797965187 : True := trivial
theorem tw956962677268122417 : True := trivial
theorem tw12211380539166087753 : True := trivial
theorem tw13671756088133313087 : True := trivial
theorem tw5850991567925798318 : True := trivial
theorem tw15578025631644234493 : True := trivial
theorem tw6291416237084387574 : True := trivial
theorem tw18176940659606848779 : True := trivial
theorem tw16639802674150441104 : True := trivial
theorem tw18235018827726667335 : True := trivial
theorem tw15337868472472888810 : True := trivial
theorem tw13616292390063288746 : True := trivial
theorem tw8881176148764397765 : True := trivial
theorem tw7525542149764818722 : True := trivial
theorem tw6868836192036940282 : True := trivial
theorem tw4581847759332874082 : True := trivial
theorem tw11801993109049149486 : True := trivial
theorem tw5549315172176941698 : True := trivial
theorem tw13365295217650922812 : True := trivial
theorem tw8683856772340465682 : True := trivial
theorem tw1603739661141634737 : True := trivial
theorem tw2042874687063273074 : True := trivial
theorem tw6547078798241139092 : True := trivial
theorem tw18163647496604598072 : True := trivial
theorem tw9533747618267967006 : True := trivial
theorem tw13475242022060392486 : True := trivial
theorem tw7355570028127101125 : True := trivial
theorem tw15084132493965779093 : True := trivial
theorem tw3694398316872202419 : True := trivial
theorem tw6767318904944593275 : True := trivial
theorem tw10601615944963115059 : True := trivial
theorem tw7296583596125217682 : True := trivial
theorem tw10678649693572172417 : True := trivial
theorem tw12268275109542032366 : True := trivial
theorem tw11778180911958503814 : True := trivial
theorem tw12727495553239364174 : True := trivial
theorem tw5797579720489195210 : True := trivial
theorem tw14478148883734587675 : True := trivial
theorem tw12271959270614036898 : True := trivial
theorem tw8811097733284410319 : True := trivial
theorem tw2608437505485318709 : True := trivial
theorem tw9813410681712176819 : True := trivial
theorem tw8179070454071193570 : True := trivial
theorem tw8381844023166312768 : True := trivial
theorem tw16641143254114907239 : True := trivial
theorem tw15852365999677673905 : True := trivial
theorem tw18264374347568628810 : True := trivial
theorem tw6848782300941138395 : True := trivial
theorem tw17177331786930743035 : True := trivial
theorem tw4916360252006170105 : True := trivial
theorem tw758273949599710562 : True := trivial
theorem tw16466144469519276583 : True := trivial
theorem tw7289634563603522867 : True := trivial
theorem tw17542962492245011380 : True := trivial
theorem tw16698745307106531279 : True := trivial
theorem tw14612060388864693735 : True := trivial
theorem tw17252143746492648416 : True := trivial
theorem tw17377529257436501650 : True := trivial
theorem tw18252017834820373320 : True := trivial
theorem tw5147079676372830966 : True := trivial
theorem tw12459740579856956213 : True := trivial
theorem tw17001982702790524580 : True := trivial
theorem tw2562236817408797766 : True := trivial
theorem tw17876089906941426215 : True := trivial
theorem tw13217827037086042188 : True := trivial
theorem tw6184460063843016694 : True := trivial
theorem tw1582976572388173787 : True := trivial
theorem tw4780371949962762201 : True := trivial
theorem tw5343241284826551009 : True := trivial
theorem tw511748877826530558 : True := trivial
theorem tw12870888531099404533 : True := trivial
theorem tw15610959940260225430 : True := trivial
theorem tw16376525773666504680 : True := trivial
theorem tw2323474266016966308 : True := trivial
theorem tw2922222751358710265 : True := trivial
theorem tw6320253292602491972 : True := trivial
theorem tw1147470481896660410 : True := trivial
theorem tw2658526732547218105 : True := trivial
theorem tw11162318198679636149 : True := trivial
theorem tw6264232113106981867 : True := trivial
theorem tw3660579746685279459 : True := trivial
theorem tw18219297243305740317 : True := trivial
theorem tw4702841417184801058 : True := trivial
theorem tw3386092968808520798 : True := trivial
theorem tw940617070666608080 : True := trivial
theorem tw15367242080415987702 : True := trivial
theorem tw11136197038861592535 : True := trivial
theorem tw18293732401869909652 : True := trivial
theorem tw7191455744419660376 : True := trivial
theorem tw11660266114150955751 : True := trivial
theorem tw3704167492566942397 : True := trivial
theorem tw5972152646836171707 : True := trivial
theorem tw5247051413645994129 : True := trivial
theorem tw1557243174674812401 : True := trivial
theorem tw6442067068224118133 : True := trivial
theorem tw12561155100871721849 : True := trivial
theorem tw1379335367625716243 : True := trivial
theorem tw16477043939570097188 : True := trivial
theorem tw7712595579559962911 : True := trivial
theorem tw17038178572684014812 : True := trivial
theorem tw13262116225945230012 : True := trivial
theorem tw10603584201595350602 : True := trivial
theorem tw3229955645248102723 : True := trivial
theorem tw17992175057805443440 : True := trivial
theorem tw14980023328507725902 : True := trivial
theorem tw8317466277049474617 : True := trivial
theorem tw12602439190401603521 : True := trivial
theorem tw13051953538815563581 : True := trivial
theorem tw10845626234925267891 : True := trivial
theorem tw9449672872311958731 : True := trivial
theorem tw506717569212085965 : True := trivial
theorem tw9883373325332830790 : True := trivial
theorem tw17143205804819765802 : True := trivial
theorem tw11151547217846952531 : True := trivial
theorem tw7702882491108231240 : True := trivial
theorem tw2887051446865420828 : True := trivial
theorem tw10806950440038215891 : True := trivial
theorem tw1051681510052472703 : True := trivial
theorem tw3608708970678896270 : True := trivial
theorem tw3132252637357597028 : True := trivial
theorem tw2068664650715991707 : True := trivial
theorem tw4788038989552484473 : True := trivial
theorem tw2788664435532181463 : True := trivial
theorem tw10778257442750969130 : True := trivial
theorem tw2489000522355961661 : True := trivial
theorem tw13532847315355080253 : True := trivial
theorem tw9215163618515126356 : True := trivial
theorem tw5190246844813560578 : True := trivial
theorem tw14439243815434019604 : True := trivial
theorem tw14492701947808656938 : True := trivial
theorem tw15856727013471470956 : True := trivial
theorem tw14852329139284432860 : True := trivial
theorem tw7372000682148998216 : True := trivial
theorem tw14103535550066685397 : True := trivial
theorem tw4186180820073840449 : True := trivial
theorem tw9476321141362543215 : True := trivial
theorem tw8356816923877370021 : True := trivial
theorem tw8030812658769144569 : True := trivial
theorem tw3994144814604779786 : True := trivial
theorem tw9513423893830186035 : True := trivial
theorem tw8683543433012000357 : True := trivial
theorem tw17902569758825723728 : True := trivial
theorem tw10604169790165778682 : True := trivial
theorem tw4297731678662094536 : True := trivial
theorem tw16432713993328977331 : True := trivial
theorem tw6755925336976613232 : True := trivial
theorem tw16415028865518655546 : True := trivial
theorem tw5283464899586487735 : True := trivial
theorem tw7028611270464810887 : True := trivial
theorem tw3913528116038191188 : True := trivial
theorem tw14246236162039180721 : True := trivial
theorem tw16011055738799735888 : True := trivial
theorem tw10643592516055977328 : True := trivial
theorem tw4355604671862981090 : True := trivial
theorem tw1194904439430580092 : True := trivial
theorem tw4654797750381630734 : True := trivial
theorem tw10264135568141901301 : True := trivial
theorem tw17070941380808615275 : True := trivial
theorem tw3088336149111003398 : True := trivial
theorem tw12113243949977362033 : True := trivial
theorem tw15697423400787487869 : True := trivial
theorem tw9153386212771759811 : True := trivial
theorem tw8271738721435924559 : True := trivial
theorem tw12565835363266740329 : True := trivial
theorem tw8228950375871286339 : True := trivial
theorem tw12832683148521936107 : True := trivial
theorem tw1043307727769730188 : True := trivial
theorem tw10879034167726328663 : True := trivial
theorem tw6578402527460240241 : True := trivial
theorem tw16064382804478563927 : True := trivial
theorem tw10787125048147943196 : True := trivial
theorem tw15618049606547972131 : True := trivial
theorem tw6615107907471364465 : True := trivial
theorem tw13562760996464443880 : True := trivial
theorem tw18370931923303237609 : True := trivial
theorem tw6394381022753523788 : True := trivial
theorem tw6181573660694698118 : True := trivial
theorem tw4068527845204499245 : True := trivial
theorem tw5073084297179040123 : True := trivial
theorem tw2004659784336800654 : True := trivial
theorem tw17062030032774818151 : True := trivial
theorem tw12337632362937886050 : True := trivial
theorem tw11283319371284918911 : True := trivial
theorem tw6305734824756694309 : True := trivial
theorem tw7182994202766372144 : True := trivial
theorem tw2708950531961675432 : True := trivial
theorem tw16487816990975572028 : True := trivial
theorem tw4494801613693538912 : True := trivial
theorem tw5643178794243155062 : True := trivial
theorem tw7526368328331116154 : True := trivial
theorem tw14440960662653809013 : True := trivial
theorem tw11551083187376567056 : True := trivial
theorem tw10424393626065333798 : True := trivial
theorem tw578887228443019578 : True := trivial
theorem tw1439246655266547700 : True := trivial
theorem tw678209747344391502 : True := trivial
theorem tw13278266679757069043 : True := trivial
theorem tw6278647508926252785 : True := trivial
theorem tw6438293893037913957 : True := trivial
theorem tw14685462170515437407 : True := trivial
theorem tw3429492842335990350 : True := trivial
theorem tw12023040214023829324 : True := trivial
theorem tw9012836324853574702 : True := trivial
theorem tw17874285139861261050 : True := trivial
theorem tw16886030246661139085 : True := trivial
theorem tw541028032674755049 : True := trivial
theorem tw4797623924254395695 : True := trivial
theorem tw18108891784139601613 : True := trivial
theorem tw12617427626764818971 : True := trivial
theorem tw687011028012028768 : True := trivial
end hd
set_option maxRecDepth 100000 in
set_option maxHeartbeats 8000000 in
set_option Elab.async true in
theorem hd : PySem.Challenge.rw_xm0773_01.Holds := by
  w_on; o_law; o_head (hook gk.heap_1 AS as_ok al_ok); (case hw => w_witness2); exact walk _ _ rfl
end Mine

theorem PySem.Challenge.cw_xm0773_01_holds : PySem.Challenge.rw_xm0773_01.Holds := by
  exact Mine.hd
