import PyProof.Rows.All
import Wide.All
import OpenK.AllK
import Wide.FinOn
import PySem.Challenge.RW_on0255_01
open PySem PySem.W PySem.Calls PySem.Spec PyProof.Rows
set_option Elab.async false
set_option maxRecDepth 100000
set_option linter.all false
set_option maxHeartbeats 8000000
set_option genSizeOf false
set_option genInjectivity false
set_option compiler.extract_closed false
set_option bootstrap.genMatcherCode false
namespace Mine
section
noncomputable def pick (l : List Obj) : List Nat → Nat → List (Obj × Bool) :=
  List.rec (motive := fun _ => List Nat → Nat → List (Obj × Bool)) (fun _ _ => [])
    (fun o _ ih as i => match as with
      | [] => []
      | a :: as' => match Nat.beq a i with
        | true => (o, o.isFreed) :: ih as' (Nat.succ i)
        | false => ih (a :: as') (Nat.succ i)) l
theorem pick_nil (as : List Nat) (i : Nat) : pick [] as i = [] := rfl
theorem pick_cons (o : Obj) (l : List Obj) (as : List Nat) (i : Nat) : pick (o :: l) as i = match as with
      | [] => []
      | a :: as' => match Nat.beq a i with
        | true => (o, o.isFreed) :: pick l as' (Nat.succ i)
        | false => pick l (a :: as') (Nat.succ i) := rfl
theorem pick_spec : ∀ (l : List Obj) (K : Frag) (i : Nat), pick l (K.map (·.1)) i = K.map (fun p => (p.2, false)) →
    ∀ p ∈ K, ∃ j, p.1 = i + j ∧ l[j]? = some p.2 ∧ p.2.isFreed = false
  | [], [], _, _, _, hp => nomatch hp
  | [], _ :: _, _, e, _, _ => by rw [pick_nil] at e; cases e
  | o :: l, [], _, _, _, hp => nomatch hp
  | o :: l, q :: K, i, e, p, hp => by
    rw [pick_cons] at e
    simp only [List.map_cons] at e
    split at e
    · rename_i h
      injection e with e1 e2
      injection e1 with e3 e4
      rcases List.mem_cons.mp hp with rfl | hp
      · exact ⟨0, Nat.eq_of_beq_eq_true h, by rw [List.getElem?_cons_zero, e3], e3 ▸ e4⟩
      · obtain ⟨j, h1, h2, h3⟩ := pick_spec l K (i + 1) e2 p hp
        exact ⟨j + 1, h1.trans (Nat.add_right_comm i 1 j), by rw [List.getElem?_cons_succ]; exact h2, h3⟩
    · obtain ⟨j, h1, h2, h3⟩ := pick_spec l (q :: K) (i + 1) e p hp
      exact ⟨j + 1, h1.trans (Nat.add_right_comm i 1 j), by rw [List.getElem?_cons_succ]; exact h2, h3⟩
theorem mem_of_lookup {K : Frag} {a : Addr} {o : Obj} (e : K.lookup a = some o) : (a, o) ∈ K := by
  induction K with
  | nil => cases e
  | cons p r ih =>
    obtain ⟨b, x⟩ := p
    simp only [List.lookup] at e
    split at e
    · rename_i q; cases e; rw [beq_iff_eq.mp q]; exact .head _
    · exact .tail _ (ih e)
theorem pick_in {K : Params → Frag} {as : List Addr} (e : ∀ P, as = (K P).map (·.1)) (w : World) (s : Shared) (x : pick s.heap.objs.toList as 0 = (K w.params).map fun p => (p.2, false)) : InK K w s.heap := by
  intro a o h
  rw [e w.params] at x
  obtain ⟨j, h1, h2, h3⟩ := pick_spec _ _ _ x _ (mem_of_lookup h)
  have h1' : a = 0 + j := h1
  rw [Nat.zero_add] at h1'
  subst h1'
  have h4 : s.heap.objs[a]? = some o := by rw [← Array.getElem?_toList]; exact h2
  exact Heap.get?_some_iff.mpr ⟨h4, h3⟩
noncomputable def hook (K : Params → Frag) (as : List Addr) (e : ∀ P, as = (K P).map (·.1)) (_ : Unit) : Hook :=
  ⟨List (Obj × Bool), fun s => pick s.heap.objs.toList as 0, fun w => (K w.params).map fun p => (p.2, false), InK K, pick_in e, InK.keeps⟩
theorem hook_says {K : Params → Frag} {as : List Addr} {e : ∀ P, as = (K P).map (·.1)} {w : World} {h : Heap} (Y : (hook K as e ()).says w h) : (K w.params).In h := Y
local macro_rules | `(tactic| o_head $_) => `(tactic| skip)
set_option maxHeartbeats 8000000 in
theorem frame : PySem.Challenge.rw_on0255_01.row.Holds → PySem.Challenge.rw_on0255_01.row.Holds := by
  intro h
  k_head
  exact h
noncomputable def addrs : List Nat := [2, 3, 15, 17, 18, 20, 21, 22, 29, 31, 32, 34, 35, 36, 37, 38, 39, 42, 49, 50, 51, 54, 61, 63, 64, 66, 67, 68, 69, 70, 73, 80, 81, 82, 85, 86, 87, 89, 90, 92, 93, 94, 95, 97, 98, 100, 101, 102, 104, 105, 107, 108, 109, 111, 112, 114, 115, 116, 118, 119, 121, 122, 123, 125, 126, 128, 129, 130, 132, 133, 135, 136, 137, 139, 140, 142, 143, 144, 146, 147, 149, 150, 151, 153, 154, 156, 157, 158, 160, 161, 163, 164, 165, 167, 168, 170, 171, 172, 174, 175, 177, 178, 186, 188, 189, 191, 192, 193, 195, 196, 198, 199, 200, 202, 203, 205, 206, 207, 209, 210, 212, 213, 214, 215, 216, 217, 218, 221, 223, 224, 226, 227, 228, 230, 231, 233, 234, 235, 237, 238, 240, 241, 242, 243, 244, 246, 247, 249, 250, 251, 253, 254, 256, 257, 258, 260, 261, 263, 264, 265, 267, 268, 270, 271, 272, 274, 275, 277, 278, 279, 280, 282, 283, 285, 286, 287, 289, 290, 292, 293, 294, 296, 297, 299, 300, 301, 303, 304, 306, 307, 308, 310, 311, 313, 314, 322, 324, 325, 327, 328, 329, 331, 332, 334, 335, 336, 338, 339, 341, 342, 343, 344, 345, 346, 347, 350, 352, 353, 355, 356, 357, 359, 360, 362, 363, 364, 366, 367, 369, 370, 371, 373, 374, 376, 377, 378, 380, 381, 383, 384, 385, 387, 388, 390, 391, 392, 394, 395, 397, 398, 399, 401, 402, 404, 405, 406, 408, 409, 411, 412, 413, 415, 416, 418, 419, 420, 422, 423, 425, 426, 427, 429, 430, 432, 433, 434, 436, 437, 439, 440, 441, 444, 445, 446, 448, 449, 451, 452, 453, 455, 456, 458, 459, 460, 462, 463, 465, 466, 474, 476, 477, 479, 480, 481, 483, 484, 486, 487, 488, 490, 491, 493, 494, 495, 498, 499, 500, 503, 504, 505, 507, 508, 510, 511, 512, 514, 515, 517, 518, 519, 521, 522, 524, 525, 526, 527, 528, 529, 530, 533, 534, 536, 537, 539, 540, 548, 550, 551, 553, 554, 555, 557, 558, 560, 561, 562, 564, 565, 567, 568, 569, 571, 572, 574, 575, 576, 578, 579, 581, 582, 583, 585, 586, 588, 589, 590, 592, 593, 595, 596, 597, 598, 599, 600, 601, 604, 606, 607, 609, 610, 611, 613, 614, 616, 617, 618, 620, 621, 623, 624, 625, 627, 628, 630, 631, 632, 634, 635, 637, 638, 639, 641, 642, 644, 645, 646, 648, 649, 651, 652, 653, 655, 656, 658, 659, 660, 662, 663, 665, 666, 667, 669, 670, 672, 673, 674, 676, 677, 679, 680, 681, 683, 684, 686, 687, 688, 690, 691, 693, 694, 695, 698, 699, 707, 709, 710, 712, 713, 714, 716, 717, 719, 720, 721, 723, 724, 726, 727, 728, 729, 730, 731, 732, 735, 737, 738, 740, 741, 742, 744, 745, 747, 748, 749, 751, 752, 754, 755, 756, 758, 759, 761, 762, 763, 765, 766, 768, 769, 770, 772, 773, 775, 776, 777, 779, 780, 782, 783, 784, 786, 787, 789, 790, 791, 793, 794, 796, 797, 798, 800, 801, 803, 804, 805, 807, 808, 810, 811, 819, 822, 823, 824, 826, 827, 829, 830, 831, 833, 834, 836, 837, 838, 840, 841, 843, 844, 845, 847, 848, 850, 851, 852, 853, 854, 855, 856, 866, 868, 869, 871, 872, 873, 875, 876, 878, 879, 880, 882, 883, 885, 886, 887, 889, 890, 892, 893, 894, 896, 897, 899, 900, 901, 903, 904, 906, 907, 908, 909, 910, 911, 912, 915, 917, 918, 920, 921, 929, 930, 931, 932, 934, 935, 937, 938, 939, 941, 942, 944, 945, 946, 948, 949, 951, 952, 953, 954, 955, 956, 957, 960, 962, 963, 965, 966, 967, 970, 971, 972, 975, 976, 977, 980, 981, 982, 984, 985, 987, 988, 989, 991, 992, 994, 995, 996, 998, 999, 1001, 1002, 1003, 1005, 1006, 1008, 1009, 1010, 1013, 1014, 1015, 1018, 1019, 1020, 1022, 1023, 1025, 1026, 1027, 1028, 1030, 1031, 1033, 1034, 1035, 1036, 1037, 1039, 1040, 1042, 1043, 1051, 1053, 1054, 1056, 1057, 1058, 1060, 1061, 1063, 1064, 1065, 1067, 1068, 1070, 1071, 1072, 1073, 1074, 1076, 1077, 1079, 1080, 1081, 1082, 1083, 1086, 1087, 1088, 1090, 1091, 1093, 1094, 1095, 1097, 1098, 1100, 1101, 1102, 1104, 1105, 1107, 1108, 1109, 1110, 1112, 1113, 1115, 1116, 1117, 1119, 1120, 1122, 1123, 1124, 1126, 1127, 1129, 1130, 1131, 1132, 1133, 1134, 1135, 1138, 1140, 1141, 1143, 1144, 1145, 1147, 1148, 1150, 1151, 1152, 1154, 1155, 1157, 1158, 1159, 1162, 1163, 1164, 1167, 1168, 1169, 1171, 1172, 1174, 1175, 1176, 1178, 1179, 1181, 1182, 1183, 1185, 1186, 1188, 1189, 1190, 1193, 1194, 1195, 1198, 1199, 1200, 1202, 1203, 1205, 1206, 1207, 1210, 1211, 1212, 1214, 1215, 1217, 1218]
end
example : True ∨ (PySem.Challenge.rw_on0255_01.Holds ∧ Mine.frame.heap_1 = Mine.frame.heap_1) := by
  k_fill
  exact Or.inl trivial
section
set_option backward.match.sparseCases false
noncomputable abbrev Led := List (Addr × Obj)
noncomputable abbrev KK (w : World) : Frag := Mine.frame.heap_1 w.params
noncomputable abbrev tupO (its : List Value) (k : Nat) : Obj := { cls := .type "tuple", data := .seq its.toArray k }
noncomputable abbrev lstO (its : List Value) (k : Nat) : Obj := { cls := .type "list", data := .seq its.toArray k }
noncomputable abbrev insO (C d : Addr) (sl : Array (Option Value)) : Obj := ⟨.ref C, some d, .plain, sl⟩
noncomputable def natsEq : List Nat → List Nat → Bool
  | [], [] => true
  | a :: r, b :: q => match Nat.beq a b with | true => natsEq r q | false => false
  | _, _ => false
theorem natsEq_iff : ∀ {a b : List Nat}, natsEq a b = true ↔ a = b
  | [], [] => ⟨fun _ => rfl, fun _ => rfl⟩
  | [], _ :: _ => ⟨fun h => Bool.noConfusion (show false = true from h), fun h => by cases h⟩
  | _ :: _, [] => ⟨fun h => Bool.noConfusion (show false = true from h), fun h => by cases h⟩
  | a :: r, b :: q => by
    unfold natsEq
    cases e : Nat.beq a b with
    | true =>
      have e' := Nat.eq_of_beq_eq_true e
      show natsEq r q = true ↔ _
      rw [natsEq_iff, e']; simp
    | false =>
      have e' : a ≠ b := fun h => by rw [h, Nat.beq_refl b] at e; cases e
      simp [e']
/-- texts compared, sign by sign -/
noncomputable def sEq (a b : Str) : Bool := natsEq a.cps.toList b.cps.toList
theorem sEq_iff {a b : Str} : sEq a b = true ↔ a = b := by
  unfold sEq
  rw [natsEq_iff]
  constructor
  · intro e
    cases a; cases b
    simpa using e
  · intro e; rw [e]
theorem sEq_beq {a b : Str} : sEq a b = (a == b) := by
  cases e : sEq a b with
  | true => rw [sEq_iff.mp e]; simp
  | false =>
    cases q : a == b with
    | false => rfl
    | true => rw [sEq_iff.mpr (eq_of_beq q)] at e; cases e
noncomputable def look {α : Type} : List (Str × α) → Str → Option α
  | [], _ => none
  | p :: r, x => match sEq x p.1 with | true => some p.2 | false => look r x
theorem look_eq {α : Type} : ∀ {l : List (Str × α)} {x : Str}, look l x = l.lookup x
  | [], _ => rfl
  | (y, a) :: r, x => by
    unfold look List.lookup
    rw [← sEq_beq]
    cases sEq x y with
    | true => rfl
    | false => exact look_eq
noncomputable abbrev rngO (a b : Int) (t u v : Tok) : Obj := { cls := .type "range", data := .fields #[.int a t, .int b u, .int 1 v] }
/-- plain data -/
inductive Dat
  | int (i : Int)
  | str (s : Str)
  | tup (l : List Dat)
  | val (v : Value)
  | inst (a C d : Addr)
  | rng (a b : Int)
/-- what may change: lists, the names of an thing, dicts keyed by texts -/
inductive MO
  | list (l : List Dat)
  | ns (l : List (Str × Dat))
  | dict (l : List (Str × Dat))
  | held
noncomputable abbrev Sto := Addr → Option MO
noncomputable def Sto.set (σ : Sto) (a : Addr) (o : MO) : Sto := fun b => if b = a then some o else σ b
theorem Sto.set_same {σ : Sto} {a : Addr} {o : MO} : σ.set a o a = some o := if_pos rfl
theorem Sto.set_ne {σ : Sto} {a b : Addr} {o : MO} (h : b ≠ a) : σ.set a o b = σ b := if_neg h
theorem Sto.set_set {σ : Sto} {a : Addr} {o o' : MO} : (σ.set a o).set a o' = σ.set a o' := by
  funext b
  by_cases h : b = a
  · rw [h, Sto.set_same, Sto.set_same]
  · rw [Sto.set_ne h, Sto.set_ne h, Sto.set_ne h]

noncomputable def TAt (w : World) (led : Led) (a : Addr) (vs : List Value) : Prop := ∃ k, (a, tupO vs k) ∈ led ∨ (KK w).lookup a = some (tupO vs k)
mutual
inductive RV (w : World) (led : Led) : Value → Dat → Prop
  | int (i : Int) (t : Tok) : RV w led (.int i t) (.int i)
  | str (s : Str) (t : Tok) : RV w led (.str s t) (.str s)
  | val (v : Value) : RV w led v (.val v)
  | tup {a : Addr} {vs : List Value} {ds : List Dat} : TAt w led a vs → RVs w led vs ds → RV w led (.ref a) (.tup ds)
  | inst {a C d : Addr} {sl : Array (Option Value)} : (a, insO C d sl) ∈ led → RV w led (.ref a) (.inst a C d)
  | rng {r : Addr} {a b : Int} {t u v : Tok} : (r, rngO a b t u v) ∈ led → RV w led (.ref r) (.rng a b)
inductive RVs (w : World) (led : Led) : List Value → List Dat → Prop
  | nil : RVs w led [] []
  | cons {v : Value} {d : Dat} {vs : List Value} {ds : List Dat} : RV w led v d → RVs w led vs ds → RVs w led (v :: vs) (d :: ds)
end
inductive REs (w : World) (led : Led) : List DictEntry → List (Str × Dat) → Prop
  | nil : REs w led [] []
  | cons {h : Int} {x : Str} {t : Tok} {v : Value} {d : Dat} {es : List DictEntry} {fs : List (Str × Dat)} : RV w led v d → REs w led es fs → REs w led (⟨h, .str x t, v⟩ :: es) ((x, d) :: fs)
inductive RKs (w : World) (led : Led) : List (Str × Value) → List (Str × Dat) → Prop
  | nil : RKs w led [] []
  | cons {x : Str} {v : Value} {d : Dat} {es : List (Str × Value)} {fs : List (Str × Dat)} : RV w led v d → RKs w led es fs → RKs w led ((x, v) :: es) ((x, d) :: fs)
noncomputable def TD (w : World) (o : Obj) (kvs : List (Str × Value)) : Prop := ∀ prog, o.IsDictOf (PySem.strKind prog w) kvs
noncomputable def RO (w : World) (led : Led) (o : Obj) : MO → Prop
  | .list ds => ∃ vs k, o = lstO vs k ∧ RVs w led vs ds
  | .ns fs => ∃ es n, o = dictOf es n ∧ REs w led es fs
  | .dict fs => o.cls = .type "dict" ∧ ∃ kvs, TD w o kvs ∧ RKs w led kvs fs
  | .held => o.cls = .type "list"
noncomputable def RS (w : World) (led : Led) (σ : Sto) : Prop := ∀ a mo, σ a = some mo → ∃ o, (a, o) ∈ led ∧ RO w led o mo
noncomputable def ND (led : Led) : Prop := (led.map (·.1)).Nodup
theorem ND.eq {led : Led} (h : ND led) {a : Addr} {o o' : Obj} (h1 : (a, o) ∈ led) (h2 : (a, o') ∈ led) : o = o' := by
  induction led with
  | nil => nomatch h1
  | cons p r ih =>
    have hc : ∀ q ∈ r, q.1 ≠ p.1 := fun q hq e => by
      have h' : (p.1 :: r.map (·.1)).Nodup := h
      exact (List.nodup_cons.mp h').1 (e ▸ List.mem_map_of_mem hq)
    have hr : ND r := (List.nodup_cons.mp (show (p.1 :: r.map (·.1)).Nodup from h)).2
    rcases List.mem_cons.mp h1 with e1 | h1 <;> rcases List.mem_cons.mp h2 with e2 | h2
    · rw [← e1] at e2; exact (Prod.mk.inj e2).2.symm
    · exact absurd (by rw [← e1]) (hc _ h2)
    · exact absurd (by rw [← e2]) (hc _ h1)
    · exact ih hr h1 h2
theorem ND.cons {led : Led} {a : Addr} {o : Obj} (h : ND led) (f : ∀ p ∈ led, p.1 < a) : ND ((a, o) :: led) :=
  List.nodup_cons.mpr ⟨fun hm => by
    obtain ⟨p, hp, e⟩ := List.mem_map.mp hm
    exact absurd (f p hp) (by rw [e]; exact Nat.lt_irrefl a), h⟩
noncomputable def Sub (l l' : Led) : Prop := ∀ p ∈ l, p ∈ l'
theorem TAt.mono {w : World} {l l' : Led} {a : Addr} {vs : List Value} (h : TAt w l a vs) (s : ∀ k, (a, tupO vs k) ∈ l → (a, tupO vs k) ∈ l') : TAt w l' a vs := h.imp fun k x => x.imp (s k) id
/-- objects that never change -/
inductive Imm : Obj → Prop
  | tup (vs : List Value) (k : Nat) : Imm (tupO vs k)
  | ins (C d : Addr) (sl : Array (Option Value)) : Imm (insO C d sl)
  | rng (a b : Int) (t u v : Tok) : Imm (rngO a b t u v)
noncomputable def Im (l l' : Led) : Prop := ∀ a o, Imm o → (a, o) ∈ l → (a, o) ∈ l'
theorem Im.of {l l' : Led} (s : Sub l l') : Im l l' := fun _ _ _ h => s _ h
mutual
theorem RV.im {w : World} {l l' : Led} (s : Im l l') {v : Value} {d : Dat} : RV w l v d → RV w l' v d
  | .int i t => .int i t
  | .str x t => .str x t
  | .val v => .val v
  | .tup h r => .tup (h.mono fun k => s _ _ (.tup _ _)) (RVs.im s r)
  | .inst h => .inst (s _ _ (.ins ..) h)
  | .rng h => .rng (s _ _ (.rng ..) h)
theorem RVs.im {w : World} {l l' : Led} (s : Im l l') {vs : List Value} {ds : List Dat} : RVs w l vs ds → RVs w l' vs ds
  | .nil => .nil
  | .cons h r => .cons (RV.im s h) (RVs.im s r)
end
theorem REs.im {w : World} {l l' : Led} (s : Im l l') {es : List DictEntry} {fs : List (Str × Dat)} (h : REs w l es fs) : REs w l' es fs := by
  induction h with
  | nil => exact .nil
  | cons h _ ih => exact .cons (h.im s) ih
theorem RKs.im {w : World} {l l' : Led} (s : Im l l') {es : List (Str × Value)} {fs : List (Str × Dat)} (h : RKs w l es fs) : RKs w l' es fs := by
  induction h with
  | nil => exact .nil
  | cons h _ ih => exact .cons (h.im s) ih
theorem RO.im {w : World} {l l' : Led} (s : Im l l') {o : Obj} {mo : MO} (h : RO w l o mo) : RO w l' o mo := by
  cases mo with
  | list ds => obtain ⟨vs, k, e, r⟩ := h; exact ⟨vs, k, e, r.im s⟩
  | ns fs => obtain ⟨es, n, e, r⟩ := h; exact ⟨es, n, e, r.im s⟩
  | dict fs => obtain ⟨e, kvs, t, r⟩ := h; exact ⟨e, kvs, t, r.im s⟩
  | held => exact h
theorem RO.cls {w : World} {l : Led} {o : Obj} {mo : MO} (h : RO w l o mo) : o.cls = .type "list" ∨ o.cls = .type "dict" := by
  cases mo with
  | list ds => obtain ⟨vs, k, e, r⟩ := h; rw [e]; exact .inl rfl
  | ns fs => obtain ⟨es, n, e, r⟩ := h; rw [e]; exact .inr rfl
  | dict fs => exact .inr h.1
  | held => exact .inl h
theorem RO.cls0 {w : World} {l : Led} {o : Obj} {ds : List Dat} (h : RO w l o (.list ds)) : o.cls = .type "list" := by
  obtain ⟨vs, k, e, r⟩ := h; rw [e]
theorem RS.imm {w : World} {l : Led} {σ : Sto} (R : RS w l σ) (N : ND l) {a : Addr} {o : Obj} (hi : Imm o) (h : (a, o) ∈ l) : σ a = none := by
  cases e : σ a with
  | none => rfl
  | some mo =>
    obtain ⟨ob, ho, r⟩ := R a mo e
    rw [N.eq ho h] at r
    cases hi <;> rcases r.cls with q | q <;> exact absurd q (by simp)
/-- what nobody changes: no datum's, or laid aside -/
noncomputable def Fz (σ : Sto) (a : Addr) : Prop := σ a = none ∨ σ a = some .held
/-- one ledger goes on into another -/
noncomputable def Ext (σ : Sto) (l : Led) (σ' : Sto) (l' : Led) : Prop := ∀ a o, (a, o) ∈ l → Fz σ a → (a, o) ∈ l' ∧ σ' a = σ a
theorem Ext.rfl {σ : Sto} {l : Led} : Ext σ l σ l := fun _ _ h _ => ⟨h, Eq.refl _⟩
theorem Ext.trans {σ σ' σ'' : Sto} {l l' l'' : Led} (h : Ext σ l σ' l') (h' : Ext σ' l' σ'' l'') : Ext σ l σ'' l'' := fun a o m e =>
  have z := h a o m e
  have y := h' a o z.1 (e.imp z.2.trans z.2.trans)
  ⟨y.1, y.2.trans z.2⟩
theorem Ext.at {σ σ' : Sto} {l l' : Led} (X : Ext σ l σ' l') {a : Addr} {o : Obj} (h : (a, o) ∈ l) (e : σ a = none) : (a, o) ∈ l' ∧ σ' a = none :=
  have z := X a o h (.inl e)
  ⟨z.1, z.2.trans e⟩
theorem Ext.im {w : World} {σ σ' : Sto} {l l' : Led} (X : Ext σ l σ' l') (R : RS w l σ) (N : ND l) : Im l l' :=
  fun _ _ hi h => (X.at h (R.imm N hi h)).1
theorem RS.sub {w : World} {l l' : Led} {σ : Sto} (R : RS w l σ) (S : Sub l l') : RS w l' σ := fun a mo e =>
  let ⟨o, h, r⟩ := R a mo e
  ⟨o, S _ h, r.im (.of S)⟩
theorem RS.fresh {w : World} {l : Led} {σ : Sto} (R : RS w l σ) {a : Addr} (f : ∀ p ∈ l, p.1 < a) : σ a = none := by
  cases e : σ a with
  | none => rfl
  | some mo =>
    obtain ⟨o, ho, _⟩ := R a mo e
    exact absurd (f _ ho) (Nat.lt_irrefl a)
theorem Ext.cons {σ : Sto} {l : Led} {p : Addr × Obj} : Ext σ l σ (p :: l) := fun _ _ h _ => ⟨.tail _ h, Eq.refl _⟩
theorem RS.new {w : World} {l : Led} {σ : Sto} (R : RS w l σ) {a : Addr} {o : Obj} {mo : MO} (f : ∀ p ∈ l, p.1 < a) (r : RO w ((a, o) :: l) o mo) : RS w ((a, o) :: l) (σ.set a mo) := fun b mb e => by
  by_cases q : b = a
  · subst q
    rw [Sto.set_same] at e
    cases e
    exact ⟨o, .head _, r⟩
  · rw [Sto.set_ne q] at e
    exact R.sub (fun _ h => .tail _ h) b mb e
theorem Ext.new {σ : Sto} {l : Led} {a : Addr} {o : Obj} {mo : MO} (f : ∀ p ∈ l, p.1 < a) : Ext σ l (σ.set a mo) ((a, o) :: l) := fun b ob h _ => ⟨.tail _ h, Sto.set_ne (Nat.ne_of_lt (f _ h))⟩
/-- one object of the ledger exchanged -/
noncomputable def lset (l : Led) (a : Addr) (o : Obj) : Led := l.map fun p => if p.1 = a then (a, o) else p
theorem lset_keys {l : Led} {a : Addr} {o : Obj} : (lset l a o).map (·.1) = l.map (·.1) := by
  unfold lset
  rw [List.map_map]
  refine List.map_congr_left fun p _ => ?_
  show (if p.1 = a then (a, o) else p).1 = p.1
  by_cases e : p.1 = a
  · rw [if_pos e, e]
  · rw [if_neg e]
theorem lset_nd {l : Led} {a : Addr} {o : Obj} (h : ND l) : ND (lset l a o) := by unfold ND; rw [lset_keys]; exact h
theorem lset_other {l : Led} {a b : Addr} {o ob : Obj} (h : (b, ob) ∈ l) (n : b ≠ a) : (b, ob) ∈ lset l a o :=
  List.mem_map.mpr ⟨_, h, if_neg n⟩
theorem lset_this {l : Led} {a : Addr} {o ob : Obj} (h : (a, ob) ∈ l) : (a, o) ∈ lset l a o := List.mem_map.mpr ⟨_, h, if_pos rfl⟩
theorem lset_none {l : Led} {a : Addr} {o : Obj} (h : ∀ p ∈ l, p.1 ≠ a) : lset l a o = l := by
  unfold lset
  exact (List.map_congr_left fun p hp => if_neg (h p hp)).trans (List.map_id' l)
theorem nd_cons {p : Addr × Obj} {r : Led} (h : ND (p :: r)) : (∀ q ∈ r, q.1 ≠ p.1) ∧ ND r :=
  have h' : (p.1 :: r.map (·.1)).Nodup := h
  ⟨fun q hq e => (List.nodup_cons.mp h').1 (e ▸ List.mem_map_of_mem hq), (List.nodup_cons.mp h').2⟩
theorem upd_of {l : Led} {a : Addr} {o o' : Obj} (h : (a, o) ∈ l) (N : ND l) : Upd a o o' l (lset l a o') := by
  induction l with
  | nil => nomatch h
  | cons p r ih =>
    obtain ⟨f, N'⟩ := nd_cons N
    rcases List.mem_cons.mp h with e | h
    · subst e
      have q : lset ((a, o) :: r) a o' = (a, o') :: r := by
        show (if a = a then (a, o') else (a, o)) :: lset r a o' = _
        rw [if_pos rfl, lset_none f]
      rw [q]; exact .head f
    · have n : p.1 ≠ a := fun e => f _ h e.symm
      have q : lset (p :: r) a o' = p :: lset r a o' := by
        show (if p.1 = a then (a, o') else p) :: lset r a o' = _
        rw [if_neg n]
      rw [q]; exact .tail n (ih h N')
theorem updF_of {l : Led} {a : Addr} {o : Obj} (h : (a, o) ∈ l) (N : ND l) : UpdF a o l (fun o' => lset l a o') := by
  induction l with
  | nil => nomatch h
  | cons p r ih =>
    obtain ⟨f, N'⟩ := nd_cons N
    rcases List.mem_cons.mp h with e | h
    · subst e
      have q : (fun o' => lset ((a, o) :: r) a o') = fun o' => (a, o') :: r := by
        funext o'
        show (if a = a then (a, o') else (a, o)) :: lset r a o' = _
        rw [if_pos rfl, lset_none f]
      rw [q]; exact .head f
    · have n : p.1 ≠ a := fun e => f _ h e.symm
      have q : (fun o' => lset (p :: r) a o') = fun o' => p :: lset r a o' := by
        funext o'
        show (if p.1 = a then (a, o') else p) :: lset r a o' = _
        rw [if_neg n]
      rw [q]; exact .tail n (ih h N')
noncomputable def Mut (o : Obj) : Prop := ¬ Imm o
theorem Mut.of_cls {o : Obj} (c1 : o.cls = .type "list" ∨ o.cls = .type "dict") : Mut o := fun h => by
  cases h <;> rcases c1 with q | q <;> exact absurd q (by simp)
theorem Mut.of_cell {o : Obj} {v : Option Value} (c1 : o.data = .cell v) : Mut o := fun h => by
  cases h <;> exact absurd c1 (by simp)
theorem im_lset {l : Led} {a : Addr} {o o' : Obj} (h : (a, o) ∈ l) (N : ND l) (c1 : Mut o) : Im l (lset l a o') := by
  intro b ob hi hb
  by_cases e : b = a
  · subst e
    rw [N.eq h hb] at c1
    exact absurd hi c1
  · exact lset_other hb e
theorem RS.set {w : World} {l : Led} {σ : Sto} (R : RS w l σ) (N : ND l) {a : Addr} {o o' : Obj} {mo : MO} (h : (a, o) ∈ l) (c1 : Mut o) (r : RO w l o' mo) : RS w (lset l a o') (σ.set a mo) := fun b mb e => by
  by_cases q : b = a
  · subst q
    rw [Sto.set_same] at e
    cases e
    exact ⟨o', lset_this h, r.im (im_lset h N c1)⟩
  · rw [Sto.set_ne q] at e
    obtain ⟨ob, hb, rb⟩ := R b mb e
    exact ⟨ob, lset_other hb q, rb.im (im_lset h N c1)⟩
theorem RS.cell {w : World} {l : Led} {σ : Sto} (R : RS w l σ) (N : ND l) {a : Addr} {o o' : Obj} (h : (a, o) ∈ l) (c1 : Mut o) (e0 : σ a = none) : RS w (lset l a o') σ := fun b mb e => by
  have q : b ≠ a := fun q => by rw [q, e0] at e; cases e
  obtain ⟨ob, hb, rb⟩ := R b mb e
  exact ⟨ob, lset_other hb q, rb.im (im_lset h N c1)⟩
theorem nh_list {l : List Dat} : MO.list l ≠ .held := fun h => by cases h
theorem nh_ns {l : List (Str × Dat)} : MO.ns l ≠ .held := fun h => by cases h
theorem nh_dict {l : List (Str × Dat)} : MO.dict l ≠ .held := fun h => by cases h
theorem Fz.ne {σ : Sto} {a b : Addr} {m0 : MO} (e : Fz σ b) (e0 : σ a = some m0) (nh : m0 ≠ .held) : b ≠ a := fun q =>
  e.elim (fun e => nomatch (q ▸ e0).symm.trans e) fun e => nh (Option.some.inj ((q ▸ e0).symm.trans e))
theorem Ext.set {σ : Sto} {l : Led} {a : Addr} {o' : Obj} {mo m0 : MO} (e0 : σ a = some m0) (nh : m0 ≠ .held) : Ext σ l (σ.set a mo) (lset l a o') := fun b ob h e => ⟨lset_other h (e.ne e0 nh), Sto.set_ne (e.ne e0 nh)⟩
end
section
set_option backward.match.sparseCases false
structure Cx where
  prog : Program
  A : Around
  e0 : Env
  h0 : Heap
  L : Addr
  base : Heap
  outer : List Env
  A0 : Around
  p : Program
  loose : List Str
  mean : ExcName → Option Value
  mg : Str → Option Value
  mb : Str → Option Value
structure Cx.Ok (c : Cx) (w : World) (D : Nat) : Prop where
  B : Below c.A0 c.base c.outer c.h0
  X : (KK w).In c.h0
  T : Top c.p c.loose c.mean c.mg c.mb c.h0
  hA : c.A.frames = some (c.e0 :: c.outer)
  hh : c.A.handled = none
  hf : c.e0.frame = some c.L
  hl : c.e0.locals = c.L
  hk : c.e0.scope.kind = .function
  hd : c.A.depth + D < recursionLimit
  hu : c.A.units + 100 * D < cLine
noncomputable abbrev Never : Value → Shared → Prop := fun _ _ => False
noncomputable abbrev Vars := List (Str × Dat)
inductive VarIs (c : Cx) (env : Env) (m : Str → Option Value) (led : Led) (σ : Sto) (x : Str) (v : Value) : Prop
  | loc : env.locals = c.L → env.kindOf x = some .local → m x = some v → VarIs c env m led σ x v
  | cell {k : NameKind} {ca : Addr} {o : Obj} : env.kindOf x = some k → (k = .cell ∨ k = .free) → env.cells.lookup x = some ca → (ca, o) ∈ led → o.data = .cell (some v) → σ ca = none → VarIs c env m led σ x v
  | comp {o : Obj} {m2 : Str → Option Value} : env.kindOf x = some .local → (env.locals, o) ∈ led → LCg.NsObj o m2 → m2 x = some v → σ env.locals = none → VarIs c env m led σ x v
theorem VarIs.ext {c : Cx} {env : Env} {m : Str → Option Value} {led led' : Led} {σ σ' : Sto} {x : Str} {v : Value} (X : Ext σ led σ' led') : VarIs c env m led σ x v → VarIs c env m led' σ' x v
  | .loc a b d => .loc a b d
  | .cell a b d e f g => .cell a b d (X.at e g).1 f (X.at e g).2
  | .comp a b d e g => .comp a (X.at b g).1 d e (X.at b g).2
structure Inv (c : Cx) (w : World) (env : Env) (h : Heap) (m : Str → Option Value) (led : Led) (σ : Sto) (vars : Vars) : Prop where
  F : Fr c.h0 c.L h m
  N : News c.h0 c.L h led
  nd : ND led
  rs : RS w led σ
  rv : ∀ x d, look vars x = some d → ∃ v, VarIs c env m led σ x v ∧ RV w led v d
  cl : ∀ x ca, env.cells.lookup x = some ca → ∃ o v, (ca, o) ∈ led ∧ o.data = .cell v ∧ σ ca = none
  lo : env.locals = c.L ∨ ∃ o m2, (env.locals, o) ∈ led ∧ LCg.NsObj o m2 ∧ σ env.locals = none
theorem RV.ext {w : World} {led led' : Led} {σ σ' : Sto} {v : Value} {d : Dat} (X : Ext σ led σ' led') (R : RS w led σ) (N : ND led) (h : RV w led v d) : RV w led' v d := h.im (X.im R N)
theorem RVs.ext {w : World} {led led' : Led} {σ σ' : Sto} {v : List Value} {d : List Dat} (X : Ext σ led σ' led') (R : RS w led σ) (N : ND led) (h : RVs w led v d) : RVs w led' v d := h.im (X.im R N)
/-- a new heap under the same frame -/
theorem Inv.next {c : Cx} {w : World} {env : Env} {h h' : Heap} {m : Str → Option Value} {led led' : Led} {σ σ' : Sto} {vars : Vars} (I : Inv c w env h m led σ vars)
    (F : Fr c.h0 c.L h' m) (N : News c.h0 c.L h' led') (nd : ND led') (rs : RS w led' σ') (X : Ext σ led σ' led') : Inv c w env h' m led' σ' vars where
  F := F
  N := N
  nd := nd
  rs := rs
  rv := fun x d e => let ⟨v, a, b⟩ := I.rv x d e; ⟨v, a.ext X, b.ext X I.rs I.nd⟩
  cl := fun x ca e => let ⟨o, v, a, b, g⟩ := I.cl x ca e; ⟨o, v, (X.at a g).1, b, (X.at a g).2⟩
  lo := I.lo.imp id fun ⟨o, m2, a, b, g⟩ => ⟨o, m2, (X.at a g).1, b, (X.at a g).2⟩
/-- what stands behind a step -/
noncomputable def PostG {α β : Type} (c : Cx) (w : World) (env : Env) (vars : Vars) (RR : Led → α → β → Prop) (m : Str → Option Value) (led : Led) (σ : Sto) (s : Shared) (Q : β → Sto → Prop) (v : α) (s' : Shared) : Prop :=
  ∃ b σ' led' h' tk', s' = { s with heap := h', toks := tk' } ∧ Inv c w env h' m led' σ' vars ∧ Ext σ led σ' led' ∧ RR led' v b ∧ Q b σ'
noncomputable def EvG {α β : Type} (c : Cx) (w : World) (env : Env) (vars : Vars) (RR : Led → α → β → Prop) (σ : Sto) (t : Sem α) (Q : β → Sto → Prop) : Prop :=
  ∀ s m led, Inv c w env s.heap m led σ vars → wpAny (model c.prog w) c.A t (PostG c w env vars RR m led σ s Q) Never s
noncomputable abbrev Ev (c : Cx) (w : World) (env : Env) (vars : Vars) (σ : Sto) (t : Sem Value) (Q : Dat → Sto → Prop) : Prop := EvG c w env vars (RV w) σ t Q
noncomputable abbrev EvL (c : Cx) (w : World) (env : Env) (vars : Vars) (σ : Sto) (t : Sem (List Value)) (Q : List Dat → Sto → Prop) : Prop := EvG c w env vars (RVs w) σ t Q
noncomputable abbrev EvB (c : Cx) (w : World) (env : Env) (vars : Vars) (σ : Sto) (t : Sem Bool) (Q : Bool → Sto → Prop) : Prop := EvG c w env vars (fun _ b b' => b = b') σ t Q
noncomputable abbrev EvU (c : Cx) (w : World) (env : Env) (vars : Vars) (σ : Sto) (t : Sem Unit) (Q : Sto → Prop) : Prop := EvG c w env vars (fun _ (_ : Unit) (_ : Unit) => True) σ t (fun _ σ => Q σ)
noncomputable def Op1 {α β : Type} (c : Cx) (w : World) (env : Env) (vars : Vars) (RR : Led → α → β → Prop) (σ : Sto) (f : Value → Sem α) (d : Dat) (Q : β → Sto → Prop) : Prop :=
  ∀ s m led v, Inv c w env s.heap m led σ vars → RV w led v d → wpAny (model c.prog w) c.A (f v) (PostG c w env vars RR m led σ s Q) Never s
noncomputable def Op2 (c : Cx) (w : World) (env : Env) (vars : Vars) (σ : Sto) (f : Value → Value → Sem Value) (a b : Dat) (Q : Dat → Sto → Prop) : Prop :=
  ∀ s m led u v, Inv c w env s.heap m led σ vars → RV w led u a → RV w led v b → wpAny (model c.prog w) c.A (f u v) (PostG c w env vars (RV w) m led σ s Q) Never s
noncomputable def OpL (c : Cx) (w : World) (env : Env) (vars : Vars) (σ : Sto) (f : List Value → Sem Value) (ds : List Dat) (Q : Dat → Sto → Prop) : Prop :=
  ∀ s m led vs, Inv c w env s.heap m led σ vars → RVs w led vs ds → wpAny (model c.prog w) c.A (f vs) (PostG c w env vars (RV w) m led σ s Q) Never s
theorem never {e : Value} {s : Shared} {P : Prop} (h : Never e s) : P := h.elim
section
variable {c : Cx} {w : World} {env : Env} {vars : Vars} {σ : Sto}
section
variable {α β : Type} {RR : Led → α → β → Prop} {m : Str → Option Value} {led : Led} {s : Shared} {Q : β → Sto → Prop} {M : Model} {A : Around} {s0 : Shared} {E : Value → Shared → Prop}
theorem mkG {v : α} {b : β} {σ' : Sto} {led' : Led} {h' : Heap} {tk' : Nat} (I : Inv c w env h' m led' σ' vars) (X : Ext σ led σ' led') (R : RR led' v b) (q : Q b σ') : PostG c w env vars RR m led σ s Q v { s with heap := h', toks := tk' } := ⟨b, σ', led', h', tk', rfl, I, X, R, q⟩
theorem bndG {t : Sem α} {R : α → Shared → Prop} (H : wpAny M A t (PostG c w env vars RR m led σ s Q) Never s0) (k : ∀ v b σ' led' h' tk', Inv c w env h' m led' σ' vars → Ext σ led σ' led' → RR led' v b → Q b σ' → R v { s with heap := h', toks := tk' }) : wpAny M A t R E s0 :=
  wpAny_mono H (fun v s' p => by
    obtain ⟨b, σ', led', h', tk', e, I, X, r, q⟩ := p
    rw [e]; exact k v b σ' led' h' tk' I X r q) fun _ _ => never
theorem bndB {t : Sem β} {R : β → Shared → Prop} (H : wpAny M A t (PostG c w env vars (fun _ b b' => b = b') m led σ s Q) Never s0) (k : ∀ b σ' led' h' tk', Inv c w env h' m led' σ' vars → Ext σ led σ' led' → Q b σ' → R b { s with heap := h', toks := tk' }) : wpAny M A t R E s0 :=
  bndG H fun v b σ' led' h' tk' I X e q => by rw [show v = b from e]; exact k b σ' led' h' tk' I X q
theorem Ext.on {t : Sem α} {σ1 : Sto} {led1 : Led} {h1 : Heap} {tk1 : Nat} (X : Ext σ led σ1 led1) (H : wpAny M A t (PostG c w env vars RR m led1 σ1 { s with heap := h1, toks := tk1 } Q) Never s0) : wpAny M A t (PostG c w env vars RR m led σ s Q) Never s0 :=
  bndG H fun _ _ _ _ _ _ I X' R q => mkG I (X.trans X') R q
end
theorem PostG.up {α β : Type} {RR : Led → α → β → Prop} {m : Str → Option Value} {led led1 : Led} {σ1 : Sto} {s : Shared} {h1 : Heap} {tk1 : Nat} {Q : β → Sto → Prop} {v : α} {s' : Shared} (X : Ext σ led σ1 led1)
    (P : PostG c w env vars RR m led1 σ1 { s with heap := h1, toks := tk1 } Q v s') : PostG c w env vars RR m led σ s Q v s' := by
  obtain ⟨b, σ', led', h', tk', e, I, X', R, q⟩ := P
  rw [e]; exact mkG I (X.trans X') R q
theorem EvG.mono {α β : Type} {RR : Led → α → β → Prop} {t : Sem α} {Q Q' : β → Sto → Prop} (h : EvG c w env vars RR σ t Q) (q : ∀ b σ', Q b σ' → Q' b σ') : EvG c w env vars RR σ t Q' :=
  fun s m led I => bndG (h s m led I) fun _ _ _ _ _ _ I X R z => mkG I X R (q _ _ z)
/-- nothing of the heap is changed -/
theorem PostG.same {α β : Type} {RR : Led → α → β → Prop} {m : Str → Option Value} {led : Led} {s : Shared} {tk : Nat} {Q : β → Sto → Prop} {v : α} {b : β} (I : Inv c w env s.heap m led σ vars) (R : RR led v b) (q : Q b σ) :
    PostG c w env vars RR m led σ s Q v { s with toks := tk } := mkG (b := b) I .rfl R q
theorem PostG.here {α β : Type} {RR : Led → α → β → Prop} {m : Str → Option Value} {led : Led} {s : Shared} {Q : β → Sto → Prop} {v : α} {b : β} (I : Inv c w env s.heap m led σ vars) (R : RR led v b) (q : Q b σ) :
    PostG c w env vars RR m led σ s Q v s := mkG (b := b) I .rfl R q
theorem ev_bin {l r : Expr} {op : Operator} {pos : Pos} {Q : Dat → Sto → Prop} (h : Ev c w env vars σ (eval l env) fun a σ1 => Ev c w env vars σ1 (eval r env) fun b σ2 => Op2 c w env vars σ2 (binaryOp op) a b Q) :
    Ev c w env vars σ (eval (.BinOp l op r pos) env) Q := by
  intro s m led I
  refine wpAny_BinOp (bndG (h s m led I) ?_)
  intro v1 a σ1 led1 h1 tk1 I1 X1 R1 q1
  refine bndG (q1 _ m led1 I1) ?_
  intro v2 b σ2 led2 h2 tk2 I2 X2 R2 q2
  exact (X1.trans X2).on (q2 _ m led2 v1 v2 I2 (R1.ext X2 I1.rs I1.nd) R2)
theorem ev_cmp {l r : Expr} {op : CmpOp} {pos : Pos} {Q : Dat → Sto → Prop} (hm : behindInMarks op r = false) (h : Ev c w env vars σ (eval l env) fun a σ1 => Ev c w env vars σ1 (eval r env) fun b σ2 => Op2 c w env vars σ2 (compareOp op) a b Q) :
    Ev c w env vars σ (eval (.Compare l [op] [r] pos) env) Q := by
  intro s m led I
  refine wpAny_Compare1 (bndG (h s m led I) ?_) hm
  intro v1 a σ1 led1 h1 tk1 I1 X1 R1 q1
  refine bndG (q1 _ m led1 I1) ?_
  intro v2 b σ2 led2 h2 tk2 I2 X2 R2 q2
  exact (X1.trans X2).on (q2 _ m led2 v1 v2 I2 (R1.ext X2 I1.rs I1.nd) R2)
theorem ev_un {x : Expr} {op : UnaryOp} {pos : Pos} {Q : Dat → Sto → Prop} (h : Ev c w env vars σ (eval x env) fun a σ1 => Op1 c w env vars (RV w) σ1 (unaryOp op) a Q) : Ev c w env vars σ (eval (.UnaryOp op x pos) env) Q := by
  intro s m led I
  refine UnaryOp_ (bndG (h s m led I) ?_)
  intro v1 a σ1 led1 h1 tk1 I1 X1 R1 q1
  exact X1.on (q1 _ m led1 v1 I1 R1)
theorem ev_ifexp {test body orelse : Expr} {pos : Pos} {Q : Dat → Sto → Prop}
    (h : EvB c w env vars σ (isTrue test env (eval test env)) fun b σ1 => if b = true then Ev c w env vars σ1 (eval body env) Q else Ev c w env vars σ1 (eval orelse env) Q) : Ev c w env vars σ (eval (.IfExp test body orelse pos) env) Q := by
  intro s m led I
  refine IfExp_ (bndB (h s m led I) ?_)
  intro b σ1 led1 h1 tk1 I1 X1 q1
  cases b with
  | true => exact X1.on (q1 _ m led1 I1)
  | false => exact X1.on (q1 _ m led1 I1)
/-- the truth of a value -/
theorem ev_plain {e : Expr} {whole : Sem Value} {Q : Bool → Sto → Prop} (he : isTrue e env whole = (do let v ← whole; standAt e.pos; holding [v] (truthy v))) (h : Ev c w env vars σ whole fun a σ1 => Op1 c w env vars (fun _ b b' => b = b') σ1 truthy a Q) :
    EvB c w env vars σ (isTrue e env whole) Q := by
  intro s m led I
  refine isTrue_plain (bndG (h s m led I) ?_) he
  intro v1 a σ1 led1 h1 tk1 I1 X1 R1 q1
  exact X1.on (q1 _ m led1 v1 I1 R1)
theorem ev_tcmp {l r : Expr} {op : CmpOp} {pos : Pos} {whole : Sem Value} {Q : Bool → Sto → Prop} (hm : behindInMarks op r = false)
    (h : Ev c w env vars σ (eval l env) fun a σ1 => Ev c w env vars σ1 (eval r env) fun b σ2 => Op2 c w env vars σ2 (compareOp op) a b fun d σ3 => Op1 c w env vars (fun _ b b' => b = b') σ3 truthy d Q) :
    EvB c w env vars σ (isTrue (.Compare l [op] [r] pos) env whole) Q := by
  intro s m led I
  refine wpAny_isTrue_Compare1 (bndG (h s m led I) ?_) hm
  intro v1 a σ1 led1 h1 tk1 I1 X1 R1 q1
  refine bndG (q1 _ m led1 I1) ?_
  intro v2 b σ2 led2 h2 tk2 I2 X2 R2 q2
  refine bndG (q2 _ m led2 v1 v2 I2 (R1.ext X2 I1.rs I1.nd) R2) ?_
  intro v3 d σ3 led3 h3 tk3 I3 X3 R3 q3
  exact ((X1.trans X2).trans X3).on (q3 _ m led3 v3 I3 R3)
theorem ev_tnot {x : Expr} {pos : Pos} {whole : Sem Value} {Q : Bool → Sto → Prop} (h : EvB c w env vars σ (isTrue x env (eval x env)) fun b => Q (!b)) : EvB c w env vars σ (isTrue (.UnaryOp .Not x pos) env whole) Q := by
  intro s m led I
  refine isTrue_not (bndB (h s m led I) ?_)
  intro b σ1 led1 h1 tk1 I1 X1 q1
  exact mkG (b := !b) I1 X1 rfl q1
theorem ev_tand {x : Expr} {rest : List Expr} {pos : Pos} {whole : Sem Value} {Q : Bool → Sto → Prop}
    (h : EvB c w env vars σ (isTrue x env (eval x env)) fun b σ1 => if b = true then EvB c w env vars σ1 (isTrue (.BoolOp .And rest pos) env whole) Q else Q false σ1) : EvB c w env vars σ (isTrue (.BoolOp .And (x :: rest) pos) env whole) Q := by
  intro s m led I
  refine isTrue_and (bndB (h s m led I) ?_)
  intro b σ1 led1 h1 tk1 I1 X1 q1
  cases b with
  | true => exact X1.on (q1 _ m led1 I1)
  | false => exact mkG (b := false) I1 X1 rfl q1
theorem ev_tor {x : Expr} {rest : List Expr} {pos : Pos} {whole : Sem Value} {Q : Bool → Sto → Prop}
    (h : EvB c w env vars σ (isTrue x env (eval x env)) fun b σ1 => if b = true then Q true σ1 else EvB c w env vars σ1 (isTrue (.BoolOp .Or rest pos) env whole) Q) : EvB c w env vars σ (isTrue (.BoolOp .Or (x :: rest) pos) env whole) Q := by
  intro s m led I
  refine isTrue_or (bndB (h s m led I) ?_)
  intro b σ1 led1 h1 tk1 I1 X1 q1
  cases b with
  | true => exact mkG (b := true) I1 X1 rfl q1
  | false => exact X1.on (q1 _ m led1 I1)
theorem ev_tand0 {pos : Pos} {whole : Sem Value} {Q : Bool → Sto → Prop} (h : Q true σ) : EvB c w env vars σ (isTrue (.BoolOp .And [] pos) env whole) Q := fun _ _ _ I => isTrue_and_nil (PostG.here I rfl h)
theorem ev_tor0 {pos : Pos} {whole : Sem Value} {Q : Bool → Sto → Prop} (h : Q false σ) : EvB c w env vars σ (isTrue (.BoolOp .Or [] pos) env whole) Q := fun _ _ _ I => isTrue_or_nil (PostG.here I rfl h)
theorem ev_and {e1 e2 : Expr} {rest : List Expr} {pos : Pos} {Q : Dat → Sto → Prop}
    (h : Ev c w env vars σ (eval e1 env) fun a σ1 => Op1 c w env vars (fun _ b b' => b = b') σ1 truthy a fun b σ2 => if b = true then Ev c w env vars σ2 (eval (.BoolOp .And (e2 :: rest) pos) env) Q else Q a σ2) : Ev c w env vars σ (eval (.BoolOp .And (e1 :: e2 :: rest) pos) env) Q := by
  intro s m led I
  refine BoolOp_and (bndG (h s m led I) ?_)
  intro v a σ1 led1 h1 tk1 I1 X1 R1 q1
  refine bndB (q1 _ m led1 v I1 R1) ?_
  intro b σ2 led2 h2 tk2 I2 X2 q2
  cases b with
  | true => exact (X1.trans X2).on (q2 _ m led2 I2)
  | false => exact mkG (b := a) I2 (X1.trans X2) (R1.ext X2 I1.rs I1.nd) q2
theorem ev_or {e1 e2 : Expr} {rest : List Expr} {pos : Pos} {Q : Dat → Sto → Prop}
    (h : Ev c w env vars σ (eval e1 env) fun a σ1 => Op1 c w env vars (fun _ b b' => b = b') σ1 truthy a fun b σ2 => if b = true then Q a σ2 else Ev c w env vars σ2 (eval (.BoolOp .Or (e2 :: rest) pos) env) Q) : Ev c w env vars σ (eval (.BoolOp .Or (e1 :: e2 :: rest) pos) env) Q := by
  intro s m led I
  refine BoolOp_or (bndG (h s m led I) ?_)
  intro v a σ1 led1 h1 tk1 I1 X1 R1 q1
  refine bndB (q1 _ m led1 v I1 R1) ?_
  intro b σ2 led2 h2 tk2 I2 X2 q2
  cases b with
  | true => exact mkG (b := a) I2 (X1.trans X2) (R1.ext X2 I1.rs I1.nd) q2
  | false => exact (X1.trans X2).on (q2 _ m led2 I2)
theorem ev_one {op : BoolOp} {e : Expr} {pos : Pos} {Q : Dat → Sto → Prop} (h : Ev c w env vars σ (eval e env) Q) : Ev c w env vars σ (eval (.BoolOp op [e] pos) env) Q := fun s m led I => BoolOp_one (h s m led I)
noncomputable def isStar : Expr → Bool
  | .Starred _ _ => true
  | _ => false
theorem starEach_cons {e : Expr} {rest : List Expr} (h : isStar e = false) : starEach (e :: rest) env = (false, eval e env) :: starEach rest env := by
  cases e <;> first | rfl | exact Bool.noConfusion (show true = false from h)
theorem evs_nil {pos : Pos} {Q : List Dat → Sto → Prop} (h : Q [] σ) : EvL c w env vars σ (spliced (backTo pos (starEach [] env))) Q := fun _ _ _ I => args_nil (PostG.here I .nil h)
theorem evs_cons {e : Expr} {rest : List Expr} {pos : Pos} {Q : List Dat → Sto → Prop} (hs : isStar e = false) (h : Ev c w env vars σ (eval e env) fun a σ1 => EvL c w env vars σ1 (spliced (backTo pos (starEach rest env))) fun as σ2 => Q (a :: as) σ2) :
    EvL c w env vars σ (spliced (backTo pos (starEach (e :: rest) env))) Q := by
  intro s m led I
  refine args_cons (bndG (h s m led I) ?_) (starEach_cons hs)
  intro v a σ1 led1 h1 tk1 I1 X1 R1 q1
  refine bndG (q1 _ m led1 I1) ?_
  intro vs as σ2 led2 h2 tk2 I2 X2 R2 q2
  exact mkG (b := a :: as) I2 (X1.trans X2) (.cons (R1.ext X2 I1.rs I1.nd) R2) q2
/-- a new object that is no datum's to change -/
theorem Inv.push {h h' : Heap} {m : Str → Option Value} {led : Led} {D : Addr} {o : Obj} (I : Inv c w env h m led σ vars) (F : Fr c.h0 c.L h' m) (N : News c.h0 c.L h' ((D, o) :: led)) (f : ∀ p ∈ led, p.1 < D) : Inv c w env h' m ((D, o) :: led) σ vars :=
  I.next F N (I.nd.cons f) (I.rs.sub fun _ h => .tail _ h) Ext.cons
theorem Inv.pushM {h h' : Heap} {m : Str → Option Value} {led : Led} {D : Addr} {o : Obj} {mo : MO} (I : Inv c w env h m led σ vars) (F : Fr c.h0 c.L h' m) (N : News c.h0 c.L h' ((D, o) :: led)) (f : ∀ p ∈ led, p.1 < D) (r : RO w ((D, o) :: led) o mo) : Inv c w env h' m ((D, o) :: led) (σ.set D mo) vars :=
  I.next F N (I.nd.cons f) (I.rs.new f r) (Ext.new f)
theorem Inv.lset {h h' : Heap} {m : Str → Option Value} {led : Led} {a : Addr} {o' : Obj} {m0 mo : MO} (I : Inv c w env h m led σ vars) (e : σ a = some m0) (nh : m0 ≠ .held) (F : Fr c.h0 c.L h' m) (N : News c.h0 c.L h' (lset led a o')) (r : RO w led o' mo) : Inv c w env h' m (Mine.lset led a o') (σ.set a mo) vars := by
  obtain ⟨o, ho, ro⟩ := I.rs a m0 e
  exact I.next F N (lset_nd I.nd) (I.rs.set I.nd ho (.of_cls ro.cls) r) (Ext.set e nh)
theorem Inv.low {h : Heap} {m : Str → Option Value} {led : Led} (I : Inv c w env h m led σ vars) : ∀ p ∈ led, p.1 < h.objs.size := fun p hp => Heap.lt_size (I.N p hp).1
theorem op_tuple {ds : List Dat} {Q : Dat → Sto → Prop} (hz : ds.length ≤ 1000) (h : Q (.tup ds) σ) : OpL c w env vars σ newTuple ds Q := by
  intro s m led vs I R
  have hl : vs.length ≤ sizeLine := by
    have : ∀ {vs : List Value} {ds : List Dat}, RVs w led vs ds → vs.length = ds.length := fun {vs} => by
      induction vs with
      | nil => intro ds r; cases r; rfl
      | cons v vs ih => intro ds r; cases r with | cons _ r => rw [List.length_cons, List.length_cons, ih r]
    rw [this R, sizeLine_eq]; omega
  refine newTuple_N I.F I.N (fun h' F' N' => ?_) hl
  exact mkG (I.push F' N' I.low) Ext.cons (.tup ⟨_, .inl (.head _)⟩ (R.im (.of fun _ h => .tail _ h))) h
theorem op_list {ds : List Dat} {Q : Dat → Sto → Prop} (hz : ds.length ≤ 1000) (h : ∀ D, σ D = none → Q (.val (.ref D)) (σ.set D (.list ds))) : OpL c w env vars σ newList ds Q := by
  intro s m led vs I R
  have hl : vs.length ≤ sizeLine := by
    have : ∀ {vs : List Value} {ds : List Dat}, RVs w led vs ds → vs.length = ds.length := fun {vs} => by
      induction vs with
      | nil => intro ds r; cases r; rfl
      | cons v vs ih => intro ds r; cases r with | cons _ r => rw [List.length_cons, List.length_cons, ih r]
    rw [this R, sizeLine_eq]; omega
  refine newList_N I.F I.N (fun h' F' N' => ?_) hl
  exact mkG (I.pushM (mo := .list ds) F' N' I.low ⟨vs, 0, rfl, R.im (.of fun _ h => .tail _ h)⟩) (Ext.new I.low) (.val _) (h _ (I.rs.fresh I.low))
theorem ev_tuple {elts : List Expr} {k : Nat} {pos : Pos} {Q : Dat → Sto → Prop} (h : EvL c w env vars σ (spliced (backTo pos (starEach elts env))) fun ds σ1 => OpL c w env vars σ1 newTuple ds Q) : Ev c w env vars σ (eval (.Tuple elts k pos) env) Q := by
  intro s m led I
  refine Tuple_ (bndG (h s m led I) ?_)
  intro v a σ1 led1 h1 tk1 I1 X1 R1 q1
  exact X1.on (q1 _ m led1 v I1 R1)
theorem ev_list {elts : List Expr} {pos : Pos} {Q : Dat → Sto → Prop} (h : EvL c w env vars σ (spliced (backTo pos (starEach elts env))) fun ds σ1 => OpL c w env vars σ1 newList ds Q) : Ev c w env vars σ (eval (.List elts pos) env) Q := by
  intro s m led I
  refine List_ (bndG (h s m led I) ?_)
  intro v a σ1 led1 h1 tk1 I1 X1 R1 q1
  exact X1.on (q1 _ m led1 v I1 R1)
theorem ev_int {i : Int} {k : Nat} {pos : Pos} {Q : Dat → Sto → Prop} (h : Q (.int i) σ) : Ev c w env vars σ (eval (.Constant (.int i) k pos) env) Q := fun s _ _ I => wpAny_Constant_int (PostG.same I (.int i s.toks) h)
theorem ev_str {x : Str} {k : Nat} {pos : Pos} {Q : Dat → Sto → Prop} (h : Q (.str x) σ) : Ev c w env vars σ (eval (.Constant (.str x) k pos) env) Q := fun s _ _ I => Calls.Constant_str (PostG.same I (.str x s.toks) h)
theorem ev_bool {x : Bool} {k : Nat} {pos : Pos} {Q : Dat → Sto → Prop} (h : Q (.val (.bool x)) σ) : Ev c w env vars σ (eval (.Constant (.bool x) k pos) env) Q := fun _ _ _ I => Constant_bool (PostG.here I (.val _) h)
theorem ev_none {k : Nat} {pos : Pos} {Q : Dat → Sto → Prop} (h : Q (.val .none) σ) : Ev c w env vars σ (eval (.Constant .none k pos) env) Q := fun _ _ _ I => Constant_none (PostG.here I (.val _) h)
end
theorem news_lset {h0 h h' : Heap} {L a : Addr} {led : Led} {o o' : Obj} (N : News h0 L h led) (hm : (a, o) ∈ led) (ho : h'.get? a = some o') (keep : ∀ b ob, b ≠ a → h.get? b = some ob → h'.get? b = some ob) : News h0 L h' (lset led a o') := fun p hp => by
  obtain ⟨q, hq, e⟩ := List.mem_map.mp hp
  by_cases qa : q.1 = a
  · rw [if_pos qa] at e
    subst e
    exact ⟨ho, (N _ hm).2⟩
  · rw [if_neg qa] at e
    subst e
    have y := N _ hq
    exact ⟨keep _ _ qa y.1, y.2⟩
/-- arguments and data taken apart -/
noncomputable def nul (ds : List Dat) (X : Prop) : Prop := match ds with | [] => X | _ :: _ => False
noncomputable def one (ds : List Dat) (K : Dat → Prop) : Prop := match ds with | [] => False | d :: r => nul r (K d)
noncomputable def two (ds : List Dat) (K : Dat → Dat → Prop) : Prop := match ds with | [] => False | d :: r => one r (K d)
noncomputable def intD (d : Dat) (K : Int → Prop) : Prop := match d with | .int a => K a | _ => False
noncomputable def strD (d : Dat) (K : Str → Prop) : Prop := match d with | .str a => K a | _ => False
noncomputable def refV (v : Value) (K : Addr → Prop) : Prop := match v with | .ref a => K a | _ => False
noncomputable def refD (d : Dat) (K : Addr → Prop) : Prop := match d with | .val v => refV v K | _ => False
noncomputable def tru (b : Bool) (X : Prop) : Prop := match b with | true => X | false => False
noncomputable def som {α : Type} (o : Option α) (K : α → Prop) : Prop := match o with | some a => K a | none => False
theorem tru_ok {b : Bool} {X P : Prop} (h : tru b X) (k : b = true → X → P) : P := by
  cases b with
  | true => exact k rfl h
  | false => exact False.elim h
theorem som_ok {α : Type} {o : Option α} {K : α → Prop} {P : Prop} (h : som o K) (k : ∀ a, o = some a → K a → P) : P := by
  cases o with
  | some a => exact k a rfl h
  | none => exact False.elim h
section
variable {w : World} {led : Led}
@[elab_as_elim] theorem nul_ok {ds : List Dat} {X : Prop} {vs : List Value} {P : List Value → Prop} (h : nul ds X) (R : RVs w led vs ds) (k : X → P []) : P vs := by
  cases R with
  | nil => exact k h
  | cons _ _ => exact False.elim h
@[elab_as_elim] theorem one_ok {ds : List Dat} {K : Dat → Prop} {vs : List Value} {P : List Value → Prop} (h : one ds K) (R : RVs w led vs ds) (k : ∀ v d, RV w led v d → K d → P [v]) : P vs := by
  cases R with
  | nil => exact False.elim h
  | cons a r => exact nul_ok (P := fun vs => P (_ :: vs)) h r (k _ _ a)
@[elab_as_elim] theorem two_ok {ds : List Dat} {K : Dat → Dat → Prop} {vs : List Value} {P : List Value → Prop} (h : two ds K) (R : RVs w led vs ds) (k : ∀ v d u e, RV w led v d → RV w led u e → K d e → P [v, u]) : P vs := by
  cases R with
  | nil => exact False.elim h
  | cons a r => exact one_ok (P := fun vs => P (_ :: vs)) h r fun u e => k _ _ u e a
@[elab_as_elim] theorem intD_ok {d : Dat} {K : Int → Prop} {v : Value} {P : Value → Prop} (h : intD d K) (R : RV w led v d) (k : ∀ a t, K a → P (.int a t)) : P v := by
  cases R with
  | int a t => exact k a t h
  | _ => exact False.elim h
@[elab_as_elim] theorem strD_ok {d : Dat} {K : Str → Prop} {v : Value} {P : Value → Prop} (h : strD d K) (R : RV w led v d) (k : ∀ a t, K a → P (.str a t)) : P v := by
  cases R with
  | str a t => exact k a t h
  | _ => exact False.elim h
@[elab_as_elim] theorem refV_is {v : Value} {K : Addr → Prop} {P : Value → Prop} (h : refV v K) (k : ∀ a, K a → P (.ref a)) : P v := by
  cases v with
  | ref a => exact k a h
  | _ => exact False.elim h
@[elab_as_elim] theorem refD_ok {d : Dat} {K : Addr → Prop} {v : Value} {P : Value → Prop} (h : refD d K) (R : RV w led v d) (k : ∀ a, K a → P (.ref a)) : P v := by
  cases R with
  | val v => exact refV_is h k
  | _ => exact False.elim h
end
end
section
set_option backward.match.sparseCases false
structure EnvOk (env : Env) (sc : List (Str × NameKind)) : Prop where
  hk : env.scope.kind = .function
  hg : env.globals = mainGlobals
  hb : env.builtins = builtinsNs
  gl : ∀ x, look sc x = some .globalImplicit → env.kindOf x = some .globalImplicit
/-- plain names -/
noncomputable def okName (x : Str) : Bool := match sEq x "__debug__" with | true => false | false => match sEq x "__classdict__" with | true => false | false => true
theorem okName_1 {x : Str} (h : okName x = true) : (x == ("__debug__" : Str)) = false := by
  unfold okName at h
  rw [← sEq_beq]
  cases e : sEq x "__debug__" with
  | false => rfl
  | true => rw [e] at h; cases h
theorem okName_2 {x : Str} (h : okName x = true) : (x == ("__classdict__" : Str)) = false := by
  unfold okName at h
  rw [← sEq_beq]
  cases e : sEq x "__classdict__" with
  | false => rfl
  | true =>
    rw [e] at h
    cases q : sEq x "__debug__" with
    | true => rw [q] at h; cases h
    | false => rw [q] at h; cases h
/-- a name of the top, or of the machine -/
noncomputable def GlobIs (w : World) (x : Str) (d : Dat) : Prop :=
  ∃ v, (nsIn (KK w) mainGlobals x = some (some v) ∨ (nsIn (KK w) mainGlobals x = some none ∧ bootBuiltins x = some v ∧ x ≠ "__name__")) ∧ ∀ led, RV w led v d
section
variable {c : Cx} {w : World} {env : Env} {vars : Vars} {σ : Sto} {D : Nat} {sc : List (Str × NameKind)}
theorem ev_var {x : Str} {pos : Pos} {d : Dat} {Q : Dat → Sto → Prop} (O : EnvOk env sc) (hx : okName x = true) (e : look vars x = some d) (h : Q d σ) : Ev c w env vars σ (eval (.Name x pos) env) Q := by
  intro s m led I
  obtain ⟨v, V, R⟩ := I.rv x d e
  cases V with
  | loc hl hk hm => exact wpAny_Name (wpAny_loadName_local O.hk hk (hl ▸ I.F.ns) hm (PostG.here I R h)) (okName_1 hx)
  | cell hk hk2 hc hm hd _ =>
    rcases hk2 with rfl | rfl
    · exact wpAny_Name (wpAny_loadName_cell O.hk hk hc ⟨_, I.N.get hm, hd⟩ (PostG.here I R h)) (okName_1 hx)
    · exact wpAny_Name (wpAny_loadName_free O.hk hk hc ⟨_, I.N.get hm, hd⟩ (PostG.here I R h) (okName_2 hx)) (okName_1 hx)
  | comp hk hm hn hv _ => exact wpAny_Name (wpAny_loadName_local O.hk hk (hn.ns (I.N.get hm)) hv (PostG.here I R h)) (okName_1 hx)
theorem ev_glob {x : Str} {pos : Pos} {d : Dat} {Q : Dat → Sto → Prop} (K : c.Ok w D) (O : EnvOk env sc) (hx : okName x = true) (hs : look sc x = some .globalImplicit) (G : GlobIs w x d) (h : Q d σ) : Ev c w env vars σ (eval (.Name x pos) env) Q := by
  intro s m led I
  obtain ⟨v, e, R⟩ := G
  have T := K.T.keeps I.F.keep
  rcases e with e | ⟨e, b, n⟩
  · exact Name_function_global O.hk (O.gl x hs) (loadGlobal_global (env := env) (O.hg ▸ T.g) (mg_of K.X K.T.g e) (PostG.here I (R led) h)) (okName_1 hx)
  · exact Name_function_global O.hk (O.gl x hs) (loadGlobal_builtin (env := env) (O.hg ▸ T.g) (mg_none_of K.X K.T.g e) (O.hb ▸ T.b) ((K.T.builtins x n).trans b) (PostG.here I (R led) h)) (okName_1 hx)
noncomputable def noStars : List Expr → Bool
  | [] => true
  | e :: r => match isStar e with | true => false | false => noStars r
theorem noStars_cons {e : Expr} {r : List Expr} (h : noStars (e :: r) = true) : isStar e = false ∧ noStars r = true := by
  unfold noStars at h
  cases q : isStar e with
  | true => rw [q] at h; cases h
  | false => rw [q] at h; exact ⟨rfl, h⟩
theorem noStars_any {pos : Pos} : ∀ {es : List Expr}, noStars es = true → (backTo pos (starEach es env)).any (·.1) = false
  | [], _ => rfl
  | e :: r, h => by
    obtain ⟨h1, h2⟩ := noStars_cons h
    rw [starEach_cons h1]
    show (false || (backTo pos (starEach r env)).any (·.1)) = false
    rw [noStars_any h2]; rfl
/-- what may be called: a def, a class of the text; a built-in -/
noncomputable def KeepsV (w : World) (f : Value) : Prop := keepIn (KK w) f = true ∨ (∃ id, f = .builtin id) ∨ ∃ t, f = .type t
theorem keepsV {f : Value} (hk : KeepsV w f) (M : Model) (h : Heap) (X : (KK w).In h) : ∃ k, (k = Keeper.frame ∨ k = Keeper.machine ∨ k = Keeper.boundFrame) ∧ Looks M h (keeperOf f) k := by
  rcases hk with hk | ⟨id, rfl⟩ | ⟨t, rfl⟩
  · exact keeps_K hk h X
  · exact ⟨.machine, .inr (.inl rfl), Looks.of_pure rfl⟩
  · exact ⟨.machine, .inr (.inl rfl), Looks.of_pure rfl⟩
theorem evalArgs_ev {f : Value} {es : List Expr} {pos : Pos} {Q : Args → Shared → Prop} {E : Value → Shared → Prop} {s : Shared} {M : Model} {A : Around} (hs : noStars es = true)
    (h : wpAny M A (spliced (backTo pos (starEach es env))) (fun vs s' => Q ⟨vs, []⟩ s') E s) : wpAny M A (evalArgs f true (backTo pos (starEach es env)) []) Q E s := by
  cases es with
  | nil =>
    have h' : wpAny M A (spliced []) (fun vs s' => Q ⟨vs, []⟩ s') E s := h
    show wpAny M A (evalArgs f true [] []) Q E s
    unfold evalArgs
    show wpAny M A (spliced [] >>= _) Q E s
    refine wpAny_bind (wpAny_mono h' (fun vs s' h' => wpAny_bind (wpAny_pure ?_)) fun _ _ x => x)
    refine wpAny_holding ?_
    exact wpAny_bind (wpAny_pure (wpAny_bind (wpAny_pure (wpAny_pure h'))))
  | cons e r =>
    obtain ⟨h1, h2⟩ := noStars_cons hs
    rw [starEach_cons h1] at h ⊢
    exact evalArgs_plain h
theorem ev_callWith {f : Value} {first : List Value} {es : List Expr} {pos p' : Pos} {Q : Dat → Sto → Prop} (K : c.Ok w D) (hk : KeepsV w f) (hs : noStars es = true)
    (h : EvL c w env vars σ (spliced (backTo p' (starEach es env))) fun ds σ1 => OpL c w env vars σ1 (fun vs => call f (first ++ vs)) ds Q) : Ev c w env vars σ (callWith pos f first (backTo p' (starEach es env)) []) Q := by
  intro s m led I
  refine callWith_of (P := (KK w).In) (by show ((backTo p' (starEach es env)).any (·.1) || false) = false; rw [noStars_any hs]; rfl) (keepsV hk _) (evalArgs_ev hs (bndG (h s m led I) ?_))
  intro vs ds σ1 led1 h1 tk1 I1 X1 R1 q1
  exact ⟨K.X.keeps I1.F.keep, X1.on (q1 _ m led1 vs I1 R1)⟩
theorem ev_call {f : Value} {fe : Expr} {es : List Expr} {pos : Pos} {Q : Dat → Sto → Prop} (K : c.Ok w D) (hs : noStars es = true) (hf : ∃ x p, fe = .Name x p)
    (h : Ev c w env vars σ (eval fe env) fun d σ1 => ∃ f, d = .val f ∧ KeepsV w f ∧ EvL c w env vars σ1 (spliced (backTo pos (starEach es env))) fun ds σ2 => OpL c w env vars σ2 (fun vs => call f vs) ds Q) : Ev c w env vars σ (eval (.Call fe es [] pos) env) Q := by
  obtain ⟨x, p, rfl⟩ := hf
  intro s m led I
  refine Call_ (bndG (h s m led I) ?_)
  intro v d σ1 led1 h1 tk1 I1 X1 R1 q1
  obtain ⟨f, rfl, hk, q1⟩ := q1
  cases R1
  exact X1.on (ev_callWith K hk hs q1 _ m led1 I1)
/-- what a method is asked of -/
noncomputable def plainBase : Expr → Bool
  | .Name _ _ => true
  | .Constant _ _ _ => true
  | .Attribute _ _ _ => true
  | .Subscript _ _ _ => true
  | .Call (.Attribute _ _ _) _ _ _ => true
  | .Call (.Name _ _) (_ :: _) _ _ => true
  | _ => false
theorem noStars_all {pos : Pos} : ∀ {es : List Expr}, noStars es = true → (backTo pos (starEach es env)).all (!·.1) = true
  | [], _ => rfl
  | e :: r, h => by
    obtain ⟨h1, h2⟩ := noStars_cons h
    rw [starEach_cons h1]
    show (true && (backTo pos (starEach r env)).all (!·.1)) = true
    rw [noStars_all h2]; rfl
theorem base_plain {o : Expr} {name : Str} {whole : Sem Value} (h : plainBase o = true) : attributeBase o name env whole = whole := by
  cases o with
  | Call f args kws pos =>
    cases f with
    | Attribute => rfl
    | Name =>
      cases args with
      | nil => exact Bool.noConfusion (show false = true from h)
      | cons => rfl
    | _ => exact Bool.noConfusion (show false = true from h)
  | Name => rfl
  | Constant => rfl
  | Attribute => rfl
  | Subscript => rfl
  | _ => exact Bool.noConfusion (show false = true from h)
theorem meth_eq {o : Expr} {name : Str} {apos pos : Pos} {es : List Expr} (h1 : plainBase o = true) (h2 : Nat.beq apos.endLine pos.line = true) (h3 : noStars es = true) (h4 : Nat.blt es.length 30 = true) :
    eval (.Call (.Attribute o name apos) es [] pos) env = (do
      let ov ← eval o env
      standAt apos.atName
      let (f, first) ← holding [ov] (getMethod ov name (do return (← importBound o env).getD true))
      callWith pos f first (backTo pos (starEach es env)) []) := by
  show (do
    let ov ← attributeBase o name env (eval o env)
    standAt apos.atName
    methodCall o name apos pos env ov (es.length + 0) (backTo pos (starEach es env)) []) = _
  rw [base_plain h1]
  have h5 : methodCallForm (es.length + 0) (backTo pos (starEach es env)) [] = true := by
    unfold methodCallForm
    rw [noStars_all h3]
    show (true && true && decide (es.length + 0 + 0 < 30)) = true
    rw [decide_eq_true (by exact Nat.blt_eq.mp h4)]; rfl
  have h6 : (apos.endLine == pos.line) = true := by rw [Nat.eq_of_beq_eq_true h2]; exact beq_self_eq_true _
  unfold methodCall
  rw [h5]
  unfold methodCallPos calleeOf
  simp only [h6, Bool.not_true, Bool.false_or, if_true]
  rfl
theorem ev_meth_at {o : Expr} {name : Str} {es : List Expr} {apos pos : Pos} {Q : Dat → Sto → Prop} {s : Shared} {m : Str → Option Value} {led : Led} (K : c.Ok w D) (h1 : plainBase o = true) (h2 : Nat.beq apos.endLine pos.line = true) (h3 : noStars es = true) (h4 : Nat.blt es.length 30 = true)
    (h : wpAny (model c.prog w) c.A (eval o env) (PostG c w env vars (RV w) m led σ s fun d σ1 => ∃ f, KeepsV w f ∧ (∀ s m led v pl (Q : Value × List Value → Shared → Prop), Inv c w env s.heap m led σ1 vars → RV w led v d → Q (f, [v]) s → wpAny (model c.prog w) c.A (getMethod v name pl) Q Never s) ∧
      EvL c w env vars σ1 (spliced (backTo pos (starEach es env))) fun ds σ2 => OpL c w env vars σ2 (fun vs => call f vs) (d :: ds) Q) Never s) : wpAny (model c.prog w) c.A (eval (.Call (.Attribute o name apos) es [] pos) env) (PostG c w env vars (RV w) m led σ s Q) Never s := by
  refine MethodCall_ (pl := do return (← importBound o env).getD true) (bndG h ?_) (meth_eq h1 h2 h3 h4)
  intro v d σ1 led1 h1' tk1 I1 X1 R1 q1
  obtain ⟨f, hk, hm, q1⟩ := q1
  refine hm _ m led1 v _ _ I1 R1 ?_
  refine callWith_of (P := (KK w).In) (by show ((backTo pos (starEach es env)).any (·.1) || false) = false; rw [noStars_any h3]; rfl) (keepsV hk _) (evalArgs_ev h3 (bndG (q1 _ m led1 I1) ?_))
  intro vs ds σ2 led2 h2' tk2 I2 X2 R2 q2
  exact ⟨K.X.keeps I2.F.keep, (X1.trans X2).on (q2 _ m led2 (v :: vs) I2 (.cons (R1.ext X2 I1.rs I1.nd) R2))⟩
theorem ev_meth {o : Expr} {name : Str} {es : List Expr} {apos pos : Pos} {Q : Dat → Sto → Prop} (K : c.Ok w D) (h1 : plainBase o = true) (h2 : Nat.beq apos.endLine pos.line = true) (h3 : noStars es = true) (h4 : Nat.blt es.length 30 = true)
    (h : Ev c w env vars σ (eval o env) fun d σ1 => ∃ f, KeepsV w f ∧ (∀ s m led v pl (Q : Value × List Value → Shared → Prop), Inv c w env s.heap m led σ1 vars → RV w led v d → Q (f, [v]) s → wpAny (model c.prog w) c.A (getMethod v name pl) Q Never s) ∧
      EvL c w env vars σ1 (spliced (backTo pos (starEach es env))) fun ds σ2 => OpL c w env vars σ2 (fun vs => call f vs) (d :: ds) Q) : Ev c w env vars σ (eval (.Call (.Attribute o name apos) es [] pos) env) Q := fun s m led I => ev_meth_at K h1 h2 h3 h4 (h s m led I)
end
theorem RVs.inv {w : World} {led : Led} {vs : List Value} {d : Dat} {ds : List Dat} (r : RVs w led vs (d :: ds)) : ∃ v us, vs = v :: us ∧ RV w led v d ∧ RVs w led us ds := by
  cases r with
  | cons a b => exact ⟨_, _, rfl, a, b⟩
theorem RVs.inv0 {w : World} {led : Led} {vs : List Value} (r : RVs w led vs []) : vs = [] := by
  cases r; rfl
theorem RV.ofInt {w : World} {led : Led} {v : Value} {i : Int} (r : RV w led v (.int i)) : ∃ t, v = .int i t := by
  cases r; exact ⟨_, rfl⟩
theorem RV.ofStr {w : World} {led : Led} {v : Value} {x : Str} (r : RV w led v (.str x)) : ∃ t, v = .str x t := by
  cases r; exact ⟨_, rfl⟩
end
section
set_option backward.match.sparseCases false
theorem RVs.len {w : World} {led : Led} {vs : List Value} {ds : List Dat} (R : RVs w led vs ds) : vs.length = ds.length := by
  induction vs generalizing ds with
  | nil => cases R; rfl
  | cons v vs ih => cases R with | cons _ r => exact congrArg (· + 1) (ih r)
theorem RVs.at {w : World} {led : Led} {vs : List Value} {ds : List Dat} {j : Nat} {d : Dat} (R : RVs w led vs ds) (e : ds[j]? = some d) : ∃ v, vs[j]? = some v ∧ RV w led v d := by
  induction vs generalizing ds j with
  | nil => cases R; cases e
  | cons v vs ih =>
    cases R with
    | cons h r =>
      cases j with
      | zero => cases e; exact ⟨_, rfl, h⟩
      | succ j => exact ih r e
theorem RVs.app {w : World} {led : Led} {vs vs' : List Value} {ds ds' : List Dat} (R : RVs w led vs ds) (h : RVs w led vs' ds') : RVs w led (vs ++ vs') (ds ++ ds') := by
  induction vs generalizing ds with
  | nil => cases R; exact h
  | cons v vs ih => cases R with | cons a r => exact .cons a (ih r)
theorem TAt.isTup {w : World} {c : Cx} {D : Nat} {led : Led} {a : Addr} {vs : List Value} {h : Heap} {m : Str → Option Value} (K : c.Ok w D) (F : Fr c.h0 c.L h m) (N : News c.h0 c.L h led) (T : TAt w led a vs) : IsTup h a vs.toArray := by
  obtain ⟨k, T | T⟩ := T
  · exact ⟨_, (N _ T).1, rfl, k, rfl⟩
  · exact tupK (K.X.keeps F.keep) T
/-- data as the model's comparisons take them -/
inductive Pd (σ : Sto) : Dat → PyData → Prop
  | int (i : Int) : Pd σ (.int i) (.int i)
  | str (s : Str) : Pd σ (.str s) (.str s)
  | bool (b : Bool) : Pd σ (.val (.bool b)) (.bool b)
  | none : Pd σ (.val .none) .none
  | nil : Pd σ (.tup []) (.tuple [])
  | cons {d : Dat} {p : PyData} {ds : List Dat} {ps : List PyData} : Pd σ d p → Pd σ (.tup ds) (.tuple ps) → Pd σ (.tup (d :: ds)) (.tuple (p :: ps))
  | list {a : Addr} {ds : List Dat} {ps : List PyData} : σ a = some (.list ds) → Pd σ (.tup ds) (.tuple ps) → Pd σ (.val (.ref a)) (.list ps)
noncomputable def arith (op : Operator) (x y : Int) (Q : Int → Prop) : Prop :=
  match op with
  | .Add => Q (x + y)
  | .Sub => Q (x - y)
  | .Mult => IntMulOk x y ∧ Q (x * y)
  | .FloorDiv => (y ≠ 0 ∧ Builtin.divisionGoesByPylong x y = false) ∧ Q (x.fdiv y)
  | .Mod => y ≠ 0 ∧ Q (x.fmod y)
  | .Pow => (0 ≤ y ∧ (Builtin.Int.intBits x : Int) * y ≤ 2 ^ 27) ∧ Q (x ^ y.toNat)
  | _ => False
noncomputable def addS (op : Operator) (X : Prop) : Prop := match op with | .Add => X | _ => False
noncomputable def lstop (op : Operator) (x : Addr) (b : Dat) (σ : Sto) (Q : Dat → Sto → Prop) : Prop :=
  match op with
  | .Add => refD b fun y => ∃ xs ys, σ x = some (.list xs) ∧ σ y = some (.list ys) ∧ xs.length + ys.length ≤ 1000 ∧ ∀ D, σ D = none → Q (.val (.ref D)) (σ.set D (.list (xs ++ ys)))
  | .Mult => intD b fun n => ∃ d, σ x = some (.list [d]) ∧ n = 2 ∧ ∀ D, σ D = none → Q (.val (.ref D)) (σ.set D (.list [d, d]))
  | _ => False
noncomputable def binop (op : Operator) (a b : Dat) (σ : Sto) (Q : Dat → Sto → Prop) : Prop :=
  match a with
  | .int x => intD b fun y => arith op x y fun z => Q (.int z) σ
  | .str x => strD b fun y => addS op (x.length + y.length ≤ 1000000 ∧ Q (.str (x ++ y)) σ)
  | .val v => refV v fun x => lstop op x b σ Q
  | _ => False
noncomputable def truthyV (v : Value) (Q : Bool → Prop) : Prop := match v with | .bool b => Q b | .none => Q false | _ => False
noncomputable def truthyD (d : Dat) (σ : Sto) (Q : Bool → Sto → Prop) : Prop :=
  match d with
  | .int i => Q (i != 0) σ
  | .val v => truthyV v fun b => Q b σ
  | .str s => s.length ≤ 1000000 ∧ Q ((s.length : Int) != 0) σ
  | _ => False
@[irreducible] noncomputable def eqvD (neg : Bool) (a b : Dat) (σ : Sto) (Q : Dat → Sto → Prop) : Prop :=
  ∃ pa pb, (Pd σ a pa ∧ Pd σ b pb ∧ SeqAt.shaped pa = true ∧ SeqAt.shaped pb = true) ∧ Q (.val (.bool (xor neg (PyData.eqv pa pb)))) σ
noncomputable def noneV (v : Value) : Option Bool := match v with | .none => some true | .ref _ => some false | .bool _ => some false | _ => none
noncomputable def isNoneD (d : Dat) : Option Bool :=
  match d with
  | .val v => noneV v
  | .rng _ _ => none
  | _ => some false
noncomputable def noneIs (b : Dat) (X : Prop) : Prop := match b with | .val v => (match v with | .none => X | _ => False) | _ => False
noncomputable def ngB (neg b : Bool) : Bool := match neg with | true => !b | false => b
noncomputable def eqD (neg : Bool) (a b : Dat) (σ : Sto) (Q : Dat → Sto → Prop) : Prop :=
  match a with
  | .int x => match b with
    | .int y => Q (.val (.bool (ngB neg (decide (x = y))))) σ
    | b => eqvD neg (.int x) b σ Q
  | .str x => match b with
    | .str y => Q (.val (.bool (ngB neg (sEq x y)))) σ
    | b => eqvD neg (.str x) b σ Q
  | a => eqvD neg a b σ Q
noncomputable def cmpop (op : CmpOp) (a b : Dat) (σ : Sto) (Q : Dat → Sto → Prop) : Prop :=
  match op with
  | .Is => noneIs b (som (isNoneD a) fun x => Q (.val (.bool x)) σ)
  | .IsNot => noneIs b (som (isNoneD a) fun x => Q (.val (.bool (!x))) σ)
  | .Lt => intD a fun x => intD b fun y => Q (.val (.bool (decide (x < y)))) σ
  | .LtE => intD a fun x => intD b fun y => Q (.val (.bool (decide (x ≤ y)))) σ
  | .Gt => intD a fun x => intD b fun y => Q (.val (.bool (decide (y < x)))) σ
  | .GtE => intD a fun x => intD b fun y => Q (.val (.bool (decide (y ≤ x)))) σ
  | .Eq => eqD false a b σ Q
  | .NotEq => eqD true a b σ Q
  | _ => False
section
variable {c : Cx} {w : World} {env : Env} {vars : Vars} {σ : Sto} {D : Nat} {sc : List (Str × NameKind)}
theorem pd_reads (K : c.Ok w D) {h : Heap} {m : Str → Option Value} {led : Led} (I : Inv c w env h m led σ vars) {d : Dat} {p : PyData} (P : Pd σ d p) : ∀ {v : Value}, RV w led v d → ∃ as, Reads h v p as := by
  have key : (∀ {v : Value}, RV w led v d → ∃ as, Reads h v p as) ∧ ∀ ds, d = .tup ds → ∃ ps, p = .tuple ps ∧ ∀ {vs : List Value}, RVs w led vs ds → ∃ as, ReadsAll h vs ps as := by
    induction P with
    | int i => exact ⟨fun R => by cases R; exact ⟨_, Reads.int _ _⟩, fun ds e => by cases e⟩
    | str s => exact ⟨fun R => by cases R; exact ⟨_, Reads.str _ _⟩, fun ds e => by cases e⟩
    | bool b => exact ⟨fun R => by cases R; exact ⟨_, Reads.bool _⟩, fun ds e => by cases e⟩
    | none => exact ⟨fun R => by cases R; exact ⟨_, Reads.none⟩, fun ds e => by cases e⟩
    | nil =>
      refine ⟨fun R => ?_, fun ds e => by cases e; exact ⟨[], rfl, fun r => by cases r; exact ⟨_, .nil⟩⟩⟩
      cases R with
      | tup T r =>
        cases r
        obtain ⟨o, h1, h2, n, h3⟩ := T.isTup K I.F I.N
        exact ⟨_, .tuple h1 h2 h3 .nil⟩
    | @cons d p ds ps h1 h2 ih1 ih2 =>
      have all : ∀ {vs : List Value}, RVs w led vs (d :: ds) → ∃ as, ReadsAll h vs (p :: ps) as := fun r => by
        cases r with
        | cons a r =>
          obtain ⟨as, ha⟩ := ih1.1 a
          obtain ⟨ps', e, hb⟩ := ih2.2 _ rfl
          cases e
          obtain ⟨bs, hb⟩ := hb r
          exact ⟨_, .cons ha hb⟩
      refine ⟨fun R => ?_, fun ds e => by cases e; exact ⟨_, rfl, all⟩⟩
      cases R with
      | tup T r =>
        obtain ⟨o, h1, h2, n, h3⟩ := T.isTup K I.F I.N
        obtain ⟨as, ha⟩ := all r
        exact ⟨_, .tuple h1 h2 h3 ha⟩
    | @list a ds ps e h2 ih2 =>
      refine ⟨fun R => ?_, fun ds e => by cases e⟩
      cases R
      obtain ⟨o, ho, vs, k, rfl, r⟩ := I.rs _ _ e
      obtain ⟨ps', e', hb⟩ := ih2.2 _ rfl
      cases e'
      obtain ⟨as, ha⟩ := hb r
      exact ⟨_, .list (I.N _ ho).1 rfl rfl ha⟩
  intro v R
  exact key.1 R
theorem str_nil {x : Str} (h : x.length = 0) : x = Str.empty := by
  cases x with | mk cs => have : cs = #[] := Array.eq_empty_of_size_eq_zero h; rw [this]; rfl
theorem op_bin (K : c.Ok w (D + 1)) {op : Operator} {a b : Dat} {Q : Dat → Sto → Prop} (h : binop op a b σ Q) : Op2 c w env vars σ (binaryOp op) a b Q := by
  intro s m led u v I Ru Rv
  have new : ∀ {vs : List Value} {l : List Dat} {D : Addr} {h' : Heap}, Fr c.h0 c.L h' m → News c.h0 c.L h' ((D, lstO vs 0) :: led) → (∀ p ∈ led, p.1 < D) → RVs w led vs l → (∀ D, σ D = none → Q (.val (.ref D)) (σ.set D (.list l))) → PostG c w env vars (RV w) m led σ s Q (.ref D) { s with heap := h' } := fun F' N' f r q =>
    mkG (I.pushM (mo := .list _) F' N' f ⟨_, 0, rfl, r.im (.of fun _ h => .tail _ h)⟩) (Ext.new f) (.val _) (q _ (I.rs.fresh f))
  cases Ru with
  | int x t =>
    refine intD_ok h Rv fun y t h => ?_
    cases op with
    | Add => exact add_int (PostG.same I (.int _ _) h)
    | Sub => exact sub_int (PostG.same I (.int _ _) h)
    | Mult => exact mul_int (PostG.same I (.int _ _) h.2) h.1
    | FloorDiv => exact floordiv_int h.1.1 (PostG.same I (.int _ _) h.2) (.inl h.1.2)
    | Mod => exact mod_int' h.1 (PostG.same I (.int _ _) h.2)
    | Pow => exact pow_int h.1.1 h.1.2 (PostG.same I (.int _ _) h.2)
    | _ => exact False.elim h
  | str x t =>
    refine strD_ok h Rv fun y t h => ?_
    cases op with
    | Add =>
      refine P.add_str ?_
      have hz : (x ++ y).length ≤ sizeLine := by rw [Str.length_append, sizeLine_eq]; have := h.1; omega
      by_cases e1 : x.length = 0
      · rw [if_pos (by rw [e1]; rfl)]
        exact PostG.here I (.str _ _) (by have := h.2; rw [str_nil e1, Str.empty_append] at this; exact this)
      · rw [if_neg (by simpa using e1)]
        by_cases e2 : y.length = 0
        · rw [if_pos (by rw [e2]; rfl)]
          exact PostG.here I (.str _ _) (by have := h.2; rw [str_nil e2, Str.append_empty] at this; exact this)
        · rw [if_neg (by simpa using e2)]
          exact ⟨hz, PostG.same I (.str _ _) h.2⟩
    | _ => exact False.elim h
  | val v =>
    refine refV_is h fun x h => ?_
    cases op with
    | Add =>
      refine refD_ok h Rv fun y h => ?_
      obtain ⟨xs, ys, ex, ey, hz, q⟩ := h
      obtain ⟨ox, hx, vx, kx, rfl, rx⟩ := I.rs _ _ ex
      obtain ⟨oy, hy, vy, ky, rfl, ry⟩ := I.rs _ _ ey
      have hz' : vx.length + vy.length ≤ 1000 := by rw [rx.len, ry.len]; exact hz
      exact kmk_add_lit I.F I.N (I.N.isList hx) (I.N.isList hy) (by rw [List.toList_toArray, List.toList_toArray]) (fun D h' F' N' f => new F' N' f (rx.app ry) q) (by rw [List.toList_toArray, List.toList_toArray, sizeLine_eq]; omega)
    | Mult =>
      refine intD_ok h Rv fun n t h => ?_
      obtain ⟨d, ex, rfl, q⟩ := h
      obtain ⟨ox, hx, vx, kx, rfl, rx⟩ := I.rs _ _ ex
      cases rx with
      | cons r0 r1 =>
        cases r1
        rename_i v0
        exact KMa.mul (vs := [v0]) (ws := [v0, v0]) I.F I.N (I.N.isList hx) (by decide) (by decide) (Nat.le_of_ble_eq_true rfl) rfl (fun D h' F' N' f => new F' N' f (.cons r0 (.cons r0 .nil)) q)
    | _ => exact False.elim h
  | _ => exact False.elim h
theorem op_truthy {d : Dat} {Q : Bool → Sto → Prop} (h : truthyD d σ Q) : Op1 c w env vars (fun _ b b' => b = b') σ truthy d Q := by
  intro s m led v I R
  cases R with
  | int i t => exact P.truthy_int (PostG.here I rfl h)
  | str x t => exact P.truthy_str (by have := h.1; omega) (PostG.same I rfl h.2)
  | val v =>
    cases v with
    | bool b => exact wpAny_truthy_bool (PostG.here I rfl h)
    | none => exact truthy_none (PostG.here I rfl h)
    | _ => exact False.elim h
  | _ => exact False.elim h
theorem op_eqv (K : c.Ok w (D + 1)) {neg : Bool} {a b : Dat} {Q : Dat → Sto → Prop} (h : eqvD neg a b σ Q) : Op2 c w env vars σ (compareOp (if neg = true then .NotEq else .Eq)) a b Q := by
  intro s m led u v I Ru Rv
  unfold eqvD at h
  obtain ⟨pa, pb, ⟨h1, h2, h3, h4⟩, q⟩ := h
  obtain ⟨as, r1⟩ := pd_reads K I h1 Ru
  obtain ⟨bs, r2⟩ := pd_reads K I h2 Rv
  have hu : c.A.units + 64 < cLine := by have := K.hu; omega
  cases neg with
  | true => exact ne_dataH r1 r2 h3 h4 hu (PostG.here I (.val _) (by simpa using q))
  | false => exact eq_dataH r1 r2 h3 h4 hu (PostG.here I (.val _) (by simpa using q))
@[elab_as_elim] theorem noneIs_ok {led : Led} {b : Dat} {X : Prop} {v : Value} {P : Value → Prop} (h : noneIs b X) (R : RV w led v b) (k : X → P .none) : P v := by
  cases R with
  | val v =>
    cases v with
    | none => exact k h
    | _ => exact False.elim h
  | _ => exact False.elim h
theorem isNone_ok {s : Shared} {led : Led} {u : Value} {a : Dat} (R : RV w led u a) {b : Bool} (h : isNoneD a = some b) {Q : Value → Shared → Prop} : (Q (.bool b) s → wpAny (model c.prog w) c.A (compareOp .Is u .none) Q Never s) ∧ (Q (.bool (!b)) s → wpAny (model c.prog w) c.A (compareOp .IsNot u .none) Q Never s) := by
  cases R with
  | int => cases h; exact ⟨is_int_none, isnot_int_none⟩
  | str => cases h; exact ⟨is_str_none, isnot_str_none⟩
  | tup => cases h; exact ⟨is_ref_none, isnot_ref_none⟩
  | inst => cases h; exact ⟨is_ref_none, isnot_ref_none⟩
  | rng => cases h
  | val =>
    cases u with
    | none => cases h; exact ⟨is_none_none, isnot_none_none⟩
    | bool => cases h; exact ⟨is_bool_none, isnot_bool_none⟩
    | ref => cases h; exact ⟨is_ref_none, isnot_ref_none⟩
    | _ => cases h
theorem strEq_list {x y : Str} : (x.cps.toList == y.cps.toList) = sEq x y := by
  cases e : sEq x y with
  | true => rw [sEq_iff.mp e]; exact beq_self_eq_true _
  | false =>
    cases q : x.cps.toList == y.cps.toList with
    | false => rfl
    | true => rw [show sEq x y = true from natsEq_iff.mpr (eq_of_beq q)] at e; cases e
theorem op_eq (K : c.Ok w (D + 1)) {neg : Bool} {a b : Dat} {Q : Dat → Sto → Prop} (h : eqD neg a b σ Q) : Op2 c w env vars σ (compareOp (if neg = true then .NotEq else .Eq)) a b Q := by
  cases a with
  | int x =>
    cases b with
    | int y =>
      intro s m led u v I Ru Rv
      cases Ru; cases Rv
      cases neg with
      | true => exact ne_int (PostG.here I (.val _) h)
      | false => exact eq_int (PostG.here I (.val _) h)
    | _ => exact op_eqv K h
  | str x =>
    cases b with
    | str y =>
      intro s m led u v I Ru Rv
      cases Ru; cases Rv
      have h : Q (.val (.bool (ngB neg (x.cps.toList == y.cps.toList)))) σ := strEq_list ▸ h
      cases neg with
      | true => exact P.ne_str (PostG.here I (.val _) h)
      | false => exact P.eq_str (PostG.here I (.val _) h)
    | _ => exact op_eqv K h
  | _ => exact op_eqv K h
theorem op_cmp (K : c.Ok w (D + 1)) {op : CmpOp} {a b : Dat} {Q : Dat → Sto → Prop} (h : cmpop op a b σ Q) : Op2 c w env vars σ (compareOp op) a b Q := by
  cases op with
  | Is => exact fun s m led u v I Ru Rv => noneIs_ok h Rv fun h => som_ok h fun x e h => (isNone_ok Ru e).1 (PostG.here I (.val _) h)
  | IsNot => exact fun s m led u v I Ru Rv => noneIs_ok h Rv fun h => som_ok h fun x e h => (isNone_ok Ru e).2 (PostG.here I (.val _) h)
  | Lt => exact fun s m led u v I Ru Rv => intD_ok h Ru fun x t h => intD_ok h Rv fun y t h => lt_int (PostG.here I (.val _) h)
  | LtE => exact fun s m led u v I Ru Rv => intD_ok h Ru fun x t h => intD_ok h Rv fun y t h => le_int (PostG.here I (.val _) h)
  | Gt => exact fun s m led u v I Ru Rv => intD_ok h Ru fun x t h => intD_ok h Rv fun y t h => gt_int (PostG.here I (.val _) h)
  | GtE => exact fun s m led u v I Ru Rv => intD_ok h Ru fun x t h => intD_ok h Rv fun y t h => ge_int (PostG.here I (.val _) h)
  | Eq => exact op_eq (neg := false) K h
  | NotEq => exact op_eq (neg := true) K h
  | _ => exact False.elim h
end
theorem eqvD_g {neg : Bool} {a b : Dat} {σ : Sto} {Q : Dat → Sto → Prop} (h : ∃ pa pb, (Pd σ a pa ∧ Pd σ b pb ∧ SeqAt.shaped pa = true ∧ SeqAt.shaped pb = true) ∧ Q (.val (.bool (xor neg (PyData.eqv pa pb)))) σ) : eqvD neg a b σ Q := by
  unfold eqvD; exact h
end
section
set_option backward.match.sparseCases false
noncomputable def isSlice : Expr → Bool
  | .Slice _ _ _ _ => true
  | _ => false
theorem sub_noSlice {slice : Expr} {o i : Value} (h : isSlice slice = false) : subscripted slice false o i = operate [o, i] (getItem o i) := by
  cases slice <;> first | rfl | exact Bool.noConfusion (show true = false from h)
noncomputable def nth {α : Type} : List α → Nat → Option α
  | [], _ => none
  | x :: _, 0 => some x
  | _ :: r, n + 1 => nth r n
theorem nth_is {α : Type} : ∀ {l : List α} {n : Nat}, nth l n = l[n]?
  | [], n => by simp [nth]
  | _ :: _, 0 => by rw [List.getElem?_cons_zero]; rfl
  | _ :: r, n + 1 => by rw [List.getElem?_cons_succ, ← nth_is]; rfl
/-- an item at a place -/
noncomputable def getIdx (l : List Dat) (k : Int) : Option Dat := match k with
  | .ofNat n => nth l n
  | .negSucc n => match Nat.blt n l.length with | true => nth l (l.length - Nat.succ n) | false => none
theorem getIdx_some {l : List Dat} {k : Int} {d : Dat} (h : getIdx l k = some d) : ∃ j, seqIndex? k l.length = some j ∧ l[j]? = some d := by
  unfold getIdx at h
  cases k with
  | ofNat n =>
    dsimp only at h
    rw [nth_is] at h
    obtain ⟨hn, _⟩ := List.getElem?_eq_some_iff.mp h
    refine ⟨n, ?_, h⟩
    unfold seqIndex?
    have h0 : ¬ ((Int.ofNat n) < 0) := by
      show ¬ ((n : Int) < 0)
      omega
    have h1 : (Int.ofNat n) < (l.length : Int) := by
      show (n : Int) < _
      omega
    simp only [h0, if_false]
    have h2 : (0 : Int) ≤ Int.ofNat n := by
      show (0 : Int) ≤ (n : Int)
      omega
    simp [h1, h2]
    exact hn
  | negSucc n =>
    dsimp only at h
    cases q : Nat.blt n l.length with
    | false => rw [q] at h; cases h
    | true =>
      rw [q] at h
      have hn := Nat.blt_eq.mp q
      dsimp only at h
      rw [nth_is] at h
      refine ⟨l.length - Nat.succ n, ?_, h⟩
      unfold seqIndex?
      have h0 : Int.negSucc n < 0 := Int.negSucc_lt_zero n
      simp only [h0, if_true]
      have e : Int.negSucc n + (l.length : Int) = ((l.length - Nat.succ n : Nat) : Int) := by
        rw [Int.negSucc_eq]; omega
      rw [e]
      have h1 : ((l.length - Nat.succ n : Nat) : Int) < (l.length : Int) := by omega
      have h2 : (0 : Int) ≤ ((l.length - Nat.succ n : Nat) : Int) := by omega
      rw [if_pos (by simp only [Bool.and_eq_true, decide_eq_true_eq]; exact ⟨h2, h1⟩)]
      simp
noncomputable def okIdx (k : Int) : Bool := match k with
  | .ofNat n => Nat.blt n 9223372036854775808
  | .negSucc n => Nat.blt n 9223372036854775808
theorem okIdx_iff {k : Int} (h : okIdx k = true) : -(2 ^ 63) ≤ k ∧ k < 2 ^ 63 := by
  unfold okIdx at h
  cases k with
  | ofNat n =>
    have := Nat.blt_eq.mp h
    have e : Int.ofNat n = (n : Int) := rfl
    omega
  | negSucc n =>
    have := Nat.blt_eq.mp h
    rw [Int.negSucc_eq]
    omega
/-- the sign at a place of a text -/
noncomputable def signAt (x : Str) (k : Int) : Option Nat := match k with
  | .ofNat n => nth x.cps.toList n
  | .negSucc _ => none
noncomputable def idxD (l : List Dat) (k : Int) (K : Dat → Prop) : Prop := tru (okIdx k) (som (getIdx l k) K)
noncomputable def refSub (a : Addr) (i : Dat) (σ : Sto) (Q : Dat → Sto → Prop) : Prop :=
  match i with
  | .int k => ∃ l, σ a = some (.list l) ∧ idxD l k fun d => Q d σ
  | .str x => ∃ l, σ a = some (.dict l) ∧ som (look l x) fun d => Q d σ
  | _ => False
noncomputable def subD (o i : Dat) (σ : Sto) (Q : Dat → Sto → Prop) : Prop :=
  match o with
  | .tup l => intD i fun k => idxD l k fun d => Q d σ
  | .val v => refV v fun a => refSub a i σ Q
  | .str x => intD i fun k => x.length ≤ 1000000 ∧ som (signAt x k) fun d => Q (.str ⟨#[d]⟩) σ
  | _ => False
theorem seqIndex_some {k : Int} {n j : Nat} (h : seqIndex? k n = some j) : (k < 0 → (k + n).toNat = j ∧ -(n : Int) ≤ k) ∧ (0 ≤ k → k.toNat = j) ∧ j < n := by
  unfold seqIndex? at h
  by_cases h0 : k < 0
  · simp only [h0, if_true] at h
    split at h
    · rename_i q
      cases h
      simp only [Bool.and_eq_true, decide_eq_true_eq] at q
      omega
    · cases h
  · simp only [h0, if_false] at h
    split at h
    · rename_i q
      cases h
      simp only [Bool.and_eq_true, decide_eq_true_eq] at q
      omega
    · cases h
section
variable {prog : Program} {w : World} {A : Around} {E : Value → Shared → Prop} {s : Shared} {x y : Str} {t u : Tok} {Q : Value → Shared → Prop}
theorem sub_strI {value slice : Expr} {k : Int} {cp : Nat} (h0 : 0 ≤ k) (hs : x.length ≤ 1000000) (hc : x.cps[k.toNat]? = some cp) (h : Q (.str ⟨#[cp]⟩ s.toks) { s with toks := s.toks + 1 })
    (hs1 : subscripted slice false (.str x t) (.int k u) = operate [.str x t, .int k u] (getItem (.str x t) (.int k u)))
    (ht : ∀ r, letTemporaryGo value (.str x t) r = pure ()) :
    wpAny (model prog w) A (subscriptTail value slice (.str x t) (.int k u)) Q E s := by
  have hl : k.toNat < x.length := (Array.getElem?_eq_some_iff.mp hc).1
  have hl2 : k < x.length := by omega
  have e : Txt.item x k = ⟨#[cp]⟩ := by
    unfold Txt.item Txt.charAt seqIndex?
    have h1 : ¬ (k < 0) := by omega
    simp only [h1, if_false]
    simp [hl2, h0, hc]
  exact item_str (fitsSsize_of (N := 9223372036854775808) (by omega) (by omega) (Int.le_refl _)) (by omega) hl2 (fun _ => by rw [e]; exact h) hs1 ht
end
theorem goStr {value : Expr} {x : Str} {t : Tok} : ∀ r, letTemporaryGo value (.str x t) r = pure () := by
  intro r; cases value <;> rfl
section
variable {c : Cx} {w : World} {env : Env} {vars : Vars} {σ : Sto} {D : Nat} {sc : List (Str × NameKind)}
theorem RKs.at {led : Led} {x : Str} {d : Dat} {kvs : List (Str × Value)} {fs : List (Str × Dat)} (R : RKs w led kvs fs) (e : look fs x = some d) : ∃ v, valueAt kvs x = some v ∧ RV w led v d := by
  induction R with
  | nil => cases e
  | @cons y v d' es fs r rs ih =>
    unfold look at e
    unfold valueAt
    rw [List.find?_cons]
    cases q : sEq x y with
    | true =>
      rw [show sEq x y = true from q] at e
      cases e
      rw [show decide (y = x) = true from decide_eq_true (sEq_iff.mp q).symm]
      exact ⟨v, rfl, r⟩
    | false =>
      rw [show sEq x y = false from q] at e
      rw [show decide (y = x) = false from decide_eq_false fun z => by rw [sEq_iff.mpr z.symm] at q; cases q]
      exact ih e
theorem idx_ok {led : Led} {vs : List Value} {l : List Dat} {k : Int} {K : Dat → Prop} {P : Prop} (r : RVs w led vs l) (h : idxD l k K) (q : -(2 ^ 63) ≤ k → k < 2 ^ 63 → ∀ d v j, seqIndex? k l.length = some j → vs[j]? = some v → RV w led v d → K d → P) : P :=
  tru_ok h fun ok h => som_ok h fun d e h =>
    let ⟨j, hj, e⟩ := getIdx_some e
    let ⟨v, hv, R⟩ := r.at e
    q (okIdx_iff ok).1 (okIdx_iff ok).2 d v j hj hv R h
theorem op_sub (K : c.Ok w (D + 1)) {value slice : Expr} {o i : Dat} {Q : Dat → Sto → Prop} (hs : isSlice slice = false) (h : subD o i σ Q) : Op2 c w env vars σ (subscriptTail value slice) o i Q := by
  intro s m led u v I Ru Rv
  cases Ru with
  | tup T r =>
    refine intD_ok h Rv fun k t h => idx_ok r h fun k1 k2 d v j hj hv R h => ?_
    exact item_tupleT (T.isTup K I.F I.N) k1 k2 (by rw [r.len]; exact hj) hv (PostG.here I R h) (sub_noSlice hs)
  | str x t =>
    refine intD_ok h Rv fun k t h => ?_
    obtain ⟨hz, h1⟩ := h
    refine som_ok h1 fun cp hc h9 => ?_
    clear h1
    cases k with
    | negSucc n => cases hc
    | ofNat n =>
      have hc : nth x.cps.toList n = some cp := hc
      rw [nth_is, Array.getElem?_toList] at hc
      exact sub_strI (Int.natCast_nonneg n) hz hc (PostG.same I (.str _ _) h9) (sub_noSlice hs) goStr
  | val v =>
    refine refV_is h fun a h => ?_
    cases Rv with
    | int k t =>
      obtain ⟨l, el, h⟩ := h
      obtain ⟨o, ho, vs, n, rfl, r⟩ := I.rs _ _ el
      have hl : s.heap.IsList a vs.toArray := ⟨_, (I.N _ ho).1, rfl, n, rfl⟩
      refine idx_ok r h fun k1 k2 d v j hj hv R h => ?_
      obtain ⟨z1, z2, z3⟩ := seqIndex_some hj
      by_cases h0 : k < 0
      · obtain ⟨z4, z5⟩ := z1 h0
        exact tail_any hl.typeIs slot_list_getitem.lookup (wpAny_getItem_list_neg hl h0 (by rw [List.size_toArray, r.len]; exact z5) k1 (by rw [List.size_toArray, r.len, z4, List.getElem?_toArray]; exact hv) (PostG.here I R h)) (sub_noSlice hs)
      · have h1 : 0 ≤ k := Int.not_lt.mp h0
        exact tail_any hl.typeIs slot_list_getitem.lookup (getItem_listL hl h1 k2 (by rw [z2 h1]; exact hv) (PostG.here I R h)) (sub_noSlice hs)
    | str x t =>
      obtain ⟨l, el, h⟩ := h
      obtain ⟨o, ho, _, kvs, hT, r⟩ := I.rs _ _ el
      refine som_ok h fun d e h => ?_
      obtain ⟨v, hv, R⟩ := r.at e
      exact kdt_tail (knd := PySem.strKind c.prog w) I.N ho (hT c.prog) (kdt_getItem (knd := PySem.strKind c.prog w) I.N ho (hT c.prog) (strKind_is _ _ _ _) hv (PostG.same I R h)) (sub_noSlice hs)
    | _ => exact False.elim h
  | _ => exact False.elim h
theorem ev_sub {value slice : Expr} {pos : Pos} {Q : Dat → Sto → Prop} (h : Ev c w env vars σ (eval value env) fun o σ1 => Ev c w env vars σ1 (eval slice env) fun i σ2 => Op2 c w env vars σ2 (subscriptTail value slice) o i Q) :
    Ev c w env vars σ (eval (.Subscript value slice pos) env) Q := by
  intro s m led I
  refine Subscript_ (bndG (h s m led I) ?_)
  intro v1 a σ1 led1 h1 tk1 I1 X1 R1 q1
  refine bndG (q1 _ m led1 I1) ?_
  intro v2 b σ2 led2 h2 tk2 I2 X2 R2 q2
  exact (X1.trans X2).on (q2 _ m led2 v1 v2 I2 (R1.ext X2 I1.rs I1.nd) R2)
/-- what is known of an attribute of the instances of a class -/
structure AtrOk (w : World) (C : Addr) (name : Str) : Prop where
  g : plainGet (KK w) C name = true
  h : hasDictIn (KK w) C = true
  n : findIn (KK w) (.ref C) name = some none
  s : findIn (KK w) (.ref C) "__setattr__" = some (some (.builtin "object.__setattr__"))
  p : plainOver (KK w) C = true
  t : takerIn (KK w) C name = some none
noncomputable def isDataV : Dat → Bool
  | .val (.builtin _) => false
  | _ => true
noncomputable def attrD (a : Dat) (name : Str) (σ : Sto) (Q : Dat → Sto → Prop) : Prop :=
  match a with
  | .inst _ _ d => ∃ fs, σ d = some (.ns fs) ∧ som (look fs name) fun x => tru (isDataV x) (Q x σ)
  | _ => False
theorem isStr_sEq {x y : Str} {t : Tok} : (Value.str x t).isStr y = sEq y x := by
  show (x == y) = _
  cases e : sEq y x with
  | true => rw [sEq_iff.mp e]; exact beq_self_eq_true _
  | false =>
    cases q : x == y with
    | false => rfl
    | true => rw [eq_of_beq q, sEq_iff.mpr rfl] at e; cases e
theorem REs.get {led : Led} {x : Str} : ∀ {es : List DictEntry} {fs : List (Str × Dat)}, REs w led es fs → (∀ d, look fs x = some d → ∃ v, getL x es = some (some v) ∧ RV w led v d) ∧ (look fs x = none → getL x es = some none)
  | _, _, .nil => ⟨(fun _ e => by cases e), (fun _ => rfl)⟩
  | _, _, .cons (h := hh) (x := y) (t := t) (v := v) (es := es) (fs := fs) r rs => by
    have ih := rs.get (x := x)
    unfold look getL
    rw [List.find?_cons, List.any_cons]
    dsimp only
    rw [isStr_sEq]
    have z : DictEntry.refKey (⟨hh, .str y t, v⟩ : DictEntry) = false := rfl
    rw [z, Bool.false_or]
    cases q : sEq x y with
    | true => exact ⟨(fun d e => by cases e; exact ⟨_, rfl, r⟩), (fun e => by cases e)⟩
    | false => exact ih
theorem handed_of {led : Led} {v : Value} {d : Dat} (R : RV w led v d) (h : isDataV d = true) : handedIn v = true := by
  cases R with
  | val v => cases v <;> first | rfl | (simp [isDataV] at h)
  | _ => rfl
theorem op_attr (K : c.Ok w D) {a : Dat} {C : Addr} {name : Str} {Q : Dat → Sto → Prop} (O : AtrOk w C name) (ha : ∃ x d, a = .inst x C d) (h : attrD a name σ Q) : Op1 c w env vars (RV w) σ (fun v => getAttr v name true) a Q := by
  intro s m led v I R
  obtain ⟨x, d, rfl⟩ := ha
  obtain ⟨fs, ef, h⟩ := h
  cases R with
  | inst hm =>
    obtain ⟨o, ho, es, n, rfl, r⟩ := I.rs _ _ ef
    refine som_ok h fun y e h => tru_ok h fun hd h => ?_
    obtain ⟨v, hv, R⟩ := r.get.1 _ e
    exact get_own I.F K.X (InstAt.of_news I.N hm ho) O.g O.h O.n rfl hv (handed_of R hd) (PostG.same I R h)
theorem ev_attr {x name : Str} {p pos : Pos} {Q : Dat → Sto → Prop} (h : Ev c w env vars σ (eval (.Name x p) env) fun a σ1 => Op1 c w env vars (RV w) σ1 (fun v => getAttr v name true) a Q) : Ev c w env vars σ (eval (.Attribute (.Name x p) name pos) env) Q := by
  intro s m led I
  refine Attribute_Name_ (bndG (h s m led I) ?_)
  intro v1 a σ1 led1 h1 tk1 I1 X1 R1 q1
  exact X1.on (q1 _ m led1 v1 I1 R1)
/-- the names of an thing with one stored -/
noncomputable def putNs : List (Str × Dat) → Str → Dat → List (Str × Dat)
  | [], x, d => [(x, d)]
  | p :: r, x, d => match sEq x p.1 with | true => (p.1, d) :: r | false => p :: putNs r x d
theorem REs.put {led : Led} {x : Str} {hsh : Int} {t : Tok} {v : Value} {d : Dat} (R : RV w led v d) : ∀ {es : List DictEntry} {fs : List (Str × Dat)}, REs w led es fs → REs w led (putL x hsh (.str x t) v es) (putNs fs x d)
  | _, _, .nil => .cons R .nil
  | _, _, .cons (x := y) r rs => by
    unfold putL putNs
    dsimp only
    rw [isStr_sEq]
    cases q : sEq x y with
    | true => exact .cons R rs
    | false => exact .cons r (rs.put R)
theorem putNs_len : ∀ {fs : List (Str × Dat)} {x : Str} {d : Dat}, (putNs fs x d).length ≤ fs.length + 1
  | [], _, _ => Nat.le_refl _
  | p :: r, x, d => by
    unfold putNs
    cases sEq x p.1 with
    | true => exact Nat.le_succ _
    | false => exact Nat.succ_le_succ putNs_len
theorem REs.len {led : Led} : ∀ {es : List DictEntry} {fs : List (Str × Dat)}, REs w led es fs → es.length = fs.length
  | _, _, .nil => rfl
  | _, _, .cons _ rs => by rw [List.length_cons, List.length_cons, rs.len]
noncomputable def setD (a : Dat) (name : Str) (d : Dat) (σ : Sto) (Q : Sto → Prop) : Prop :=
  match a with
  | .inst _ _ da => ∃ fs, σ da = some (.ns fs) ∧ Nat.ble fs.length 50 = true ∧ Q (σ.set da (.ns (putNs fs name d)))
  | _ => False
theorem op_set (K : c.Ok w D) {a d : Dat} {C : Addr} {name : Str} {Q : Sto → Prop} (O : AtrOk w C name) (ha : ∃ x da, a = .inst x C da) (h : setD a name d σ Q) {s : Shared} {m : Str → Option Value} {led : Led} {u v : Value}
    (I : Inv c w env s.heap m led σ vars) (Ru : RV w led u a) (Rv : RV w led v d) : wpAny (model c.prog w) c.A (setAttr u name v) (PostG c w env vars (fun _ (_ : Unit) (_ : Unit) => True) m led σ s fun _ σ => Q σ) Never s := by
  obtain ⟨x, da, rfl⟩ := ha
  obtain ⟨fs, ef, hz, h⟩ := h
  cases Ru with
  | inst hm =>
    obtain ⟨o, ho, es, n, rfl, r⟩ := I.rs _ _ ef
    have hl : (getL name es).isSome = true := by
      cases q : look fs name with
      | some d => obtain ⟨v, hv, _⟩ := r.get.1 _ q; rw [hv]; rfl
      | none => rw [r.get.2 q]; rfl
    have R := r.put (x := name) (hsh := PyData.keyHash w.params name) (t := s.toks + 1) Rv
    have hz2 : (putL name (PyData.keyHash w.params name) (.str name (s.toks + 1)) v es).length ≤ 1000 := by
      rw [R.len]
      have := putNs_len (fs := fs) (x := name) (d := d)
      have := Nat.ble_eq.mp hz
      omega
    refine set_dict I.F K.X I.N (InstAt.of_news I.N hm ho) rfl O.s O.p O.t O.h hl rfl (upd_of ho I.nd) hz2 (fun h' F' N' => ?_)
    exact mkG (b := ()) (I.lset ef nh_ns F' N' (mo := .ns (putNs fs name d)) ⟨_, _, rfl, R⟩) (Ext.set ef nh_ns) trivial h
/-- a method of an thing -/
structure MetOk (w : World) (C : Addr) (name : Str) (f : Addr) : Prop where
  g : plainGet (KK w) C name = true
  n : findIn (KK w) (.ref C) name = some (some (.ref f))
  f : isFn (KK w) (.ref f) = true
theorem meth_inst (K : c.Ok w D) {x C d : Addr} {name : Str} {f : Addr} (O : MetOk w C name f) {fs : List (Str × Dat)} (ef : σ d = some (.ns fs)) (hn : look fs name = none) {s : Shared} {m : Str → Option Value} {led : Led} {v : Value} {pl : Sem Bool} {Q : Value × List Value → Shared → Prop}
    (I : Inv c w env s.heap m led σ vars) (R : RV w led v (.inst x C d)) (h : Q (.ref f, [v]) s) : wpAny (model c.prog w) c.A (getMethod v name pl) Q Never s := by
  cases R with
  | inst hm =>
    obtain ⟨o, ho, es, n, rfl, r⟩ := I.rs _ _ ef
    exact method_inst I.F K.X (InstAt.of_news I.N hm ho) O.g O.n O.f (r.get.2 hn) h
end
end
section
set_option backward.match.sparseCases false
/-- how a block ends -/
inductive Fl
  | next | brk | cont
  | ret (d : Dat)
noncomputable def RFl (w : World) (led : Led) (f : Flow) (fl : Fl) : Prop :=
  match fl with
  | .next => f = .next
  | .brk => f = .brk
  | .cont => f = .cont
  | .ret d => ∃ v, f = .ret v ∧ RV w led v d
/-- what the frame itself stores into: its names, its cells -/
noncomputable def Own (env : Env) (a : Addr) : Prop := env.locals = a ∨ (env.func ≠ none ∧ ∃ x, env.cells.lookup x = some a)
/-- one ledger goes on into another, but for what the frame owns -/
noncomputable def ExtC (env : Env) (σ : Sto) (l : Led) (σ' : Sto) (l' : Led) : Prop := ∀ a o, (a, o) ∈ l → Fz σ a → ¬ Own env a → (a, o) ∈ l' ∧ σ' a = σ a
theorem Ext.c {env : Env} {σ σ' : Sto} {l l' : Led} (X : Ext σ l σ' l') : ExtC env σ l σ' l' := fun a o h e _ => X a o h e
theorem ExtC.rfl {env : Env} {σ : Sto} {l : Led} : ExtC env σ l σ l := fun _ _ h _ _ => ⟨h, Eq.refl _⟩
theorem ExtC.trans {env : Env} {σ σ' σ'' : Sto} {l l' l'' : Led} (h : ExtC env σ l σ' l') (h' : ExtC env σ' l' σ'' l'') : ExtC env σ l σ'' l'' := fun a o m e n =>
  have z := h a o m e n
  have y := h' a o z.1 (e.imp z.2.trans z.2.trans) n
  ⟨y.1, y.2.trans z.2⟩
theorem ExtC.at {env : Env} {σ σ' : Sto} {l l' : Led} (X : ExtC env σ l σ' l') {a : Addr} {o : Obj} (h : (a, o) ∈ l) (e : σ a = none) (n : ¬ Own env a) : (a, o) ∈ l' ∧ σ' a = none :=
  have z := X a o h (.inl e) n
  ⟨z.1, z.2.trans e⟩
theorem own_imm {c : Cx} {w : World} {env : Env} {h : Heap} {m : Str → Option Value} {led : Led} {σ : Sto} {vars : Vars} (I : Inv c w env h m led σ vars) {a : Addr} {o : Obj} (hi : Imm o) (hm : (a, o) ∈ led) : ¬ Own env a := by
  rintro (e | ⟨_, x, e⟩)
  · rcases I.lo with q | ⟨ob, m2, hb, ⟨es, ep, hd, _⟩, _⟩
    · exact (I.N _ hm).2.1 (e.symm.trans q)
    · rw [e] at hb
      rw [I.nd.eq hb hm] at hd
      cases hi <;> cases hd
  · obtain ⟨ob, v, ho, hd, _⟩ := I.cl x a e
    rw [I.nd.eq ho hm] at hd
    exact Mut.of_cell hd hi
theorem ExtC.im {c : Cx} {w : World} {env : Env} {h : Heap} {m : Str → Option Value} {led led' : Led} {σ σ' : Sto} {vars : Vars} (I : Inv c w env h m led σ vars) (X : ExtC env σ led σ' led') : Im led led' := fun a o hi h =>
  (X.at h (I.rs.imm I.nd hi h) (own_imm I hi h)).1
noncomputable def PostS (c : Cx) (w : World) (env : Env) (led : Led) (σ : Sto) (s : Shared) (K : Fl → Vars → Sto → Prop) (f : Flow) (s' : Shared) : Prop :=
  ∃ fl vars' m' σ' led' h' tk', s' = { s with heap := h', toks := tk' } ∧ Inv c w env h' m' led' σ' vars' ∧ ExtC env σ led σ' led' ∧ RFl w led' f fl ∧ K fl vars' σ'
noncomputable def StG (c : Cx) (w : World) (env : Env) (vars : Vars) (σ : Sto) (t : Sem Flow) (K : Fl → Vars → Sto → Prop) : Prop :=
  ∀ s m led, Inv c w env s.heap m led σ vars → wpAny (model c.prog w) c.A t (PostS c w env led σ s K) Never s
/-- names stored -/
noncomputable def PostA (c : Cx) (w : World) (env : Env) (m : Str → Option Value) (led : Led) (σ : Sto) (s : Shared) (K : Vars → Sto → Prop) (_ : Unit) (s' : Shared) : Prop :=
  ∃ vars' m' σ' led' h' tk', s' = { s with heap := h', toks := tk' } ∧ Inv c w env h' m' led' σ' vars' ∧ ExtC env σ led σ' led' ∧ (env.locals = c.L ∨ m' = m) ∧ K vars' σ'
noncomputable def AsG (c : Cx) (w : World) (env : Env) (vars : Vars) (σ : Sto) (t : Value → Sem Unit) (d : Dat) (K : Vars → Sto → Prop) : Prop :=
  ∀ s m led v, Inv c w env s.heap m led σ vars → RV w led v d → wpAny (model c.prog w) c.A (t v) (PostA c w env m led σ s K) Never s
/-- the frame of a def, told by its scope's names -/
structure FunOk (c : Cx) (env : Env) (sc : List (Str × NameKind)) : Prop extends EnvOk env sc where
  he : env.locals = c.L
  hfn : env.func ≠ none
  lo : ∀ x, look sc x = some .local → env.kindOf x = some .local
  ce : ∀ x, look sc x = some .cell → env.kindOf x = some .cell ∧ ∃ ca, env.cells.lookup x = some ca
  inj : ∀ x y ca, env.cells.lookup x = some ca → env.cells.lookup y = some ca → x = y
section
variable {c : Cx} {w : World} {env : Env} {vars : Vars} {σ : Sto} {D : Nat} {sc : List (Str × NameKind)}
section
variable {led : Led} {s : Shared} {M : Model} {A : Around} {s0 : Shared} {E : Value → Shared → Prop} {m : Str → Option Value}
theorem mkS {K : Fl → Vars → Sto → Prop} {f : Flow} {fl : Fl} {vars' : Vars} {m' : Str → Option Value} {σ' : Sto} {led' : Led} {h' : Heap} {tk' : Nat} (I : Inv c w env h' m' led' σ' vars') (X : ExtC env σ led σ' led') (R : RFl w led' f fl) (q : K fl vars' σ') : PostS c w env led σ s K f { s with heap := h', toks := tk' } :=
  ⟨fl, vars', m', σ', led', h', tk', rfl, I, X, R, q⟩
theorem mkA {K : Vars → Sto → Prop} {u : Unit} {vars' : Vars} {m' : Str → Option Value} {σ' : Sto} {led' : Led} {h' : Heap} {tk' : Nat} (I : Inv c w env h' m' led' σ' vars') (X : ExtC env σ led σ' led') (e : env.locals = c.L ∨ m' = m) (q : K vars' σ') : PostA c w env m led σ s K u { s with heap := h', toks := tk' } :=
  ⟨vars', m', σ', led', h', tk', rfl, I, X, e, q⟩
theorem bndS {t : Sem Flow} {K : Fl → Vars → Sto → Prop} {R : Flow → Shared → Prop} (H : wpAny M A t (PostS c w env led σ s K) Never s0)
    (k : ∀ f fl vars' m' σ' led' h' tk', Inv c w env h' m' led' σ' vars' → ExtC env σ led σ' led' → RFl w led' f fl → K fl vars' σ' → R f { s with heap := h', toks := tk' }) : wpAny M A t R E s0 :=
  wpAny_mono H (fun f s' p => by
    obtain ⟨fl, vars', m', σ', led', h', tk', e, I, X, r, q⟩ := p
    rw [e]; exact k f fl vars' m' σ' led' h' tk' I X r q) fun _ _ => never
theorem bndA {t : Sem Unit} {K : Vars → Sto → Prop} {R : Unit → Shared → Prop} (H : wpAny M A t (PostA c w env m led σ s K) Never s0)
    (k : ∀ u vars' m' σ' led' h' tk', Inv c w env h' m' led' σ' vars' → ExtC env σ led σ' led' → (env.locals = c.L ∨ m' = m) → K vars' σ' → R u { s with heap := h', toks := tk' }) : wpAny M A t R E s0 :=
  wpAny_mono H (fun u s' p => by
    obtain ⟨vars', m', σ', led', h', tk', e, I, X, r, q⟩ := p
    rw [e]; exact k u vars' m' σ' led' h' tk' I X r q) fun _ _ => never
theorem ExtC.on {t : Sem Flow} {K : Fl → Vars → Sto → Prop} {led1 : Led} {σ1 : Sto} {h1 : Heap} {tk1 : Nat} (X : ExtC env σ led σ1 led1) (H : wpAny M A t (PostS c w env led1 σ1 { s with heap := h1, toks := tk1 } K) Never s0) : wpAny M A t (PostS c w env led σ s K) Never s0 :=
  bndS H fun _ _ _ _ _ _ _ _ I X' R q => mkS I (X.trans X') R q
theorem ExtC.onA {t : Sem Unit} {K : Vars → Sto → Prop} {m1 : Str → Option Value} {led1 : Led} {σ1 : Sto} {h1 : Heap} {tk1 : Nat} (X : ExtC env σ led σ1 led1) (e1 : env.locals = c.L ∨ m1 = m) (H : wpAny M A t (PostA c w env m1 led1 σ1 { s with heap := h1, toks := tk1 } K) Never s0) : wpAny M A t (PostA c w env m led σ s K) Never s0 :=
  bndA H fun _ _ _ _ _ _ _ I X' e2 q => mkA I (X.trans X') (e1.elim .inl (fun a => e2.imp id fun b => b.trans a)) q
end
theorem PostS.up {led led1 : Led} {σ1 : Sto} {s : Shared} {h1 : Heap} {tk1 : Nat} {K : Fl → Vars → Sto → Prop} {f : Flow} {s' : Shared} (X : ExtC env σ led σ1 led1) (P : PostS c w env led1 σ1 { s with heap := h1, toks := tk1 } K f s') : PostS c w env led σ s K f s' := by
  obtain ⟨fl, vars', m', σ', led', h', tk', e, I, X', R, q⟩ := P
  rw [e]; exact mkS I (X.trans X') R q
theorem StG.mono {t : Sem Flow} {K K' : Fl → Vars → Sto → Prop} (h : StG c w env vars σ t K) (q : ∀ f v σ, K f v σ → K' f v σ) : StG c w env vars σ t K' :=
  fun s m led I => bndS (h s m led I) fun _ _ _ _ _ _ _ _ I X R z => mkS I X R (q _ _ _ z)
/-- fewer names known -/
noncomputable def SubV : Vars → Vars → Prop
  | [], _ => True
  | p :: r, v => look v p.1 = some p.2 ∧ SubV r v
theorem SubV.at : ∀ {v v' : Vars} {x : Str} {d : Dat}, SubV v' v → look v' x = some d → look v x = some d
  | _, [], _, _, _, e => by cases e
  | v, p :: r, x, d, h, e => by
    unfold look at e
    cases q : sEq x p.1 with
    | true =>
      rw [q] at e
      cases e
      rw [sEq_iff.mp q]; exact h.1
    | false => rw [q] at e; exact h.2.at e
theorem Inv.subV {h : Heap} {m : Str → Option Value} {led : Led} {vars' : Vars} (I : Inv c w env h m led σ vars) (S : SubV vars' vars) : Inv c w env h m led σ vars' :=
  ⟨I.F, I.N, I.nd, I.rs, fun x d e => I.rv x d (S.at e), I.cl, I.lo⟩
theorem Inv.sub2 {h : Heap} {m : Str → Option Value} {led : Led} {vars' : Vars} (I : Inv c w env h m led σ vars) (S : ∀ x d, look vars' x = some d → look vars x = some d) : Inv c w env h m led σ vars' :=
  ⟨I.F, I.N, I.nd, I.rs, fun x d e => I.rv x d (S x d e), I.cl, I.lo⟩
theorem look_cons {α : Type} {l : List (Str × α)} {x y : Str} {a : α} : look ((y, a) :: l) x = if x = y then some a else look l x := by
  show (match sEq x y with | true => some a | false => look l x) = _
  cases q : sEq x y with
  | true => rw [if_pos (sEq_iff.mp q)]
  | false => rw [if_neg fun e => by rw [sEq_iff.mpr e] at q; cases q]
theorem as_local (O : FunOk c env sc) {x : Str} {d : Dat} {K : Vars → Sto → Prop} (hx : look sc x = some .local) (h : K ((x, d) :: vars) σ) : AsG c w env vars σ (fun v => storeName env x v) d K := by
  intro s m led v I R
  refine wpAny_storeName_local (O.lo x hx) (O.he ▸ I.F.ns) (fun h' hn hs => ?_) (by rw [O.hk]; rfl)
  have hs' : Heap.SameBut c.L s.heap h' := O.he ▸ hs
  refine (mkA ⟨I.F.set (O.he ▸ hn) hs', I.N.set hs', I.nd, I.rs, fun y e hy => ?_, I.cl, .inl O.he⟩ .rfl (.inl O.he) h)
  rw [look_cons] at hy
  by_cases q : y = x
  · subst q
    rw [if_pos rfl] at hy
    cases hy
    exact ⟨v, .loc O.he (O.lo y hx) (if_pos rfl), R⟩
  · rw [if_neg q] at hy
    obtain ⟨u, V, R'⟩ := I.rv y e hy
    refine ⟨u, ?_, R'⟩
    cases V with
    | loc a b z => exact .loc a b (by rw [if_neg q]; exact z)
    | cell a b e f g z => exact .cell a b e f g z
    | comp a b d e z => exact .comp a b d e z
theorem as_cell (O : FunOk c env sc) {x : Str} {d : Dat} {K : Vars → Sto → Prop} (hx : look sc x = some .cell) (h : K ((x, d) :: vars) σ) : AsG c w env vars σ (fun v => storeName env x v) d K := by
  intro s m led v I R
  obtain ⟨hk, ca, hc⟩ := O.ce x hx
  obtain ⟨o, v0, ho, hd, hn⟩ := I.cl x ca hc
  have U := updF_of ho I.nd
  obtain ⟨own, rest, el, hg, h1, h2⟩ := U.split
  refine wpAny_storeName_cell O.hk hk hc ⟨o, (I.N _ ho).1, hd⟩ fun h' hv hs => ?_
  obtain ⟨o', ho', hd'⟩ := hv
  have z := I.N _ ho
  have F' : Fr c.h0 c.L h' m := ⟨I.F.ns.sameBut hs (Ne.symm z.2.1), fun b ob e => (hs.2 b (fun q => by rw [q, z.2.2] at e; cases e)).trans (I.F.keep b ob e), I.F.above⟩
  have N' : News c.h0 c.L h' (lset led ca o') := by
    have e1 : lset led ca o' = own ++ (ca, o') :: rest := hg o'
    have N0 := I.N
    rw [el] at N0
    rw [e1]; exact N0.setAt h1 h2 hs ho'
  have M := Mut.of_cell hd
  have im := im_lset (o' := o') ho I.nd M
  refine (mkA ⟨F', N', lset_nd I.nd, I.rs.cell I.nd ho M hn, fun y e hy => ?_, fun y cb hy => ?_, .inl O.he⟩ (fun a ob hm e n => ⟨lset_other hm fun q => n (.inr ⟨O.hfn, x, q ▸ hc⟩), rfl⟩) (.inr rfl) h)
  · rw [look_cons] at hy
    by_cases q : y = x
    · subst q
      rw [if_pos rfl] at hy
      cases hy
      exact ⟨v, .cell hk (.inl rfl) hc (lset_this ho) hd' hn, R.im im⟩
    · rw [if_neg q] at hy
      obtain ⟨u, V, R'⟩ := I.rv y e hy
      refine ⟨u, ?_, R'.im im⟩
      cases V with
      | loc a b z => exact .loc a b z
      | cell a b e f g z => exact .cell a b e (lset_other f fun r => q (O.inj _ _ _ e (r ▸ hc))) g z
      | comp a b d e z => exact absurd O.he (I.N _ b).2.1
  · by_cases q : cb = ca
    · subst q
      exact ⟨o', some v, lset_this ho, hd', hn⟩
    · obtain ⟨ob, vb, hb, eb, nb⟩ := I.cl y cb hy
      exact ⟨ob, vb, lset_other hb q, eb, nb⟩
/-- a name of the frame stored -/
noncomputable def asName (sc : List (Str × NameKind)) (x : Str) (d : Dat) (vars : Vars) (σ : Sto) (K : Vars → Sto → Prop) : Prop :=
  match look sc x with
  | some .local => K ((x, d) :: vars) σ
  | some .cell => K ((x, d) :: vars) σ
  | _ => False
theorem as_name (O : FunOk c env sc) {x : Str} {d : Dat} {K : Vars → Sto → Prop} (h : asName sc x d vars σ K) : AsG c w env vars σ (fun v => storeName env x v) d K := by
  unfold asName at h
  split at h
  · rename_i e; exact as_local O e h
  · rename_i e; exact as_cell O e h
  · exact h.elim
theorem st_nil {K : Fl → Vars → Sto → Prop} (h : K .next vars σ) : StG c w env vars σ (execs [] env) K := fun s m led I => wpAny_execs_nil (mkS (fl := .next) I .rfl rfl h)
theorem st_cons {t : Stmt} {rest : List Stmt} {K : Fl → Vars → Sto → Prop} (h : StG c w env vars σ (exec t env) fun f v σ1 => match f with | .next => StG c w env v σ1 (execs rest env) K | f => K f v σ1) : StG c w env vars σ (execs (t :: rest) env) K := by
  intro s m led I
  refine wpAny_execs_cons (bndS (h s m led I) ?_)
  intro f fl vars1 m1 σ1 led1 h1 tk1 I1 X1 R1 q1
  cases fl with
  | next =>
    cases R1
    exact X1.on (q1 _ m1 led1 I1)
  | brk => cases R1; exact mkS (fl := .brk) I1 X1 rfl q1
  | cont => cases R1; exact mkS (fl := .cont) I1 X1 rfl q1
  | ret d =>
    obtain ⟨v, rfl, R⟩ := R1
    exact mkS (fl := .ret d) I1 X1 ⟨v, rfl, R⟩ q1
theorem st_ret {e : Expr} {pos : Pos} {K : Fl → Vars → Sto → Prop} (h : Ev c w env vars σ (eval e env) fun d σ1 => K (.ret d) vars σ1) : StG c w env vars σ (exec (.Return (some e) pos) env) K := by
  intro s m led I
  refine wpAny_Return_some (bndG (h s m led I) ?_)
  intro v d σ1 led1 h1 tk1 I1 X1 R1 q1
  exact mkS (fl := .ret d) I1 X1.c ⟨v, rfl, R1⟩ q1
theorem st_if {test : Expr} {body orelse : List Stmt} {pos : Pos} {K : Fl → Vars → Sto → Prop} (h : EvB c w env vars σ (isTrue test env (eval test env)) fun b σ1 => if b = true then StG c w env vars σ1 (execs body env) K else StG c w env vars σ1 (execs orelse env) K) :
    StG c w env vars σ (exec (.If test body orelse pos) env) K := by
  intro s m led I
  refine wpAny_If (bndB (h s m led I) ?_)
  intro b σ1 led1 h1 tk1 I1 X1 q1
  cases b with
  | true => exact X1.c.on (q1 _ m led1 I1)
  | false => exact X1.c.on (q1 _ m led1 I1)
noncomputable def isComp : Expr → Bool
  | .ListComp _ _ _ _ => true
  | .SetComp _ _ _ _ => true
  | .DictComp _ _ _ _ _ => true
  | _ => false
theorem swaps_no {value : Expr} {target : Option Expr} {line : Nat} (h : isComp value = false) : swapsWith value target line env = pure false := by
  cases value <;> first | rfl | exact Bool.noConfusion (show true = false from h)
theorem st_expr (O : EnvOk env sc) {e : Expr} {pos : Pos} {K : Fl → Vars → Sto → Prop} (hc : isComp e = false) (h : Ev c w env vars σ (eval e env) fun d σ1 => d = .val .none ∧ K .next vars σ1) : StG c w env vars σ (exec (.Expr e pos) env) K := by
  intro s m led I
  refine wpAny_Expr (bndG (h s m led I) ?_) (by unfold interactive; rw [O.hk]; rfl) (swaps_no hc)
  intro v d σ1 led1 h1 tk1 I1 X1 R1 q1
  obtain ⟨rfl, q1⟩ := q1
  cases R1
  exact mkS (fl := .next) I1 X1.c rfl q1
theorem st_assignName {x : Str} {e : Expr} {p pos : Pos} {K : Fl → Vars → Sto → Prop} (hc : isComp e = false) (h : Ev c w env vars σ (eval e env) fun d σ1 => AsG c w env vars σ1 (fun v => storeName env x v) d fun v σ2 => K .next v σ2) :
    StG c w env vars σ (exec (.Assign [.Name x p] e pos) env) K := by
  intro s m led I
  refine wpAny_Assign_Name (bndG (h s m led I) ?_) (swaps_no hc)
  intro v d σ1 led1 h1 tk1 I1 X1 R1 q1
  refine bndA (q1 _ m led1 v I1 R1) ?_
  intro _ vars2 m2 σ2 led2 h2 tk2 I2 X2 _ q2
  exact mkS (fl := .next) I2 (X1.c.trans X2) rfl q2
/-- a store into a target -/
theorem as_nameT {x : Str} {p : Pos} {d : Dat} {K : Vars → Sto → Prop} (h : AsG c w env vars σ (fun v => storeName env x v) d K) : AsG c w env vars σ (assign (.Name x p) env) d K := fun s m led v I R => assign_Name (h s m led v I R)
theorem as_attrT {o : Expr} {name : Str} {p : Pos} {d : Dat} {K : Vars → Sto → Prop}
    (h : Ev c w env vars σ (eval o env) fun a σ1 => ∀ s m led u v, Inv c w env s.heap m led σ1 vars → RV w led u a → RV w led v d → wpAny (model c.prog w) c.A (setAttr u name v) (PostG c w env vars (fun _ (_ : Unit) (_ : Unit) => True) m led σ1 s fun _ σ => K vars σ) Never s) :
    AsG c w env vars σ (assign (.Attribute o name p) env) d K := by
  intro s m led v I R
  refine kas_attr (bndG (h s m led I) ?_)
  intro u a σ1 led1 h1 tk1 I1 X1 R1 q1
  refine bndG (q1 _ m led1 u v I1 R1 (R.ext X1 I.rs I.nd)) ?_
  intro _ _ σ2 led2 h2 tk2 I2 X2 _ q2
  exact mkA I2 ((X1.trans X2).c) (.inr rfl) q2
theorem as_subT {o i : Expr} {p : Pos} {d : Dat} {K : Vars → Sto → Prop}
    (h : Ev c w env vars σ (eval o env) fun a σ1 => Ev c w env vars σ1 (eval i env) fun k σ2 => ∀ s m led u x v, Inv c w env s.heap m led σ2 vars → RV w led u a → RV w led x k → RV w led v d → wpAny (model c.prog w) c.A (setItem u x v) (PostG c w env vars (fun _ (_ : Unit) (_ : Unit) => True) m led σ2 s fun _ σ => K vars σ) Never s) :
    AsG c w env vars σ (assign (.Subscript o i p) env) d K := by
  intro s m led v I R
  refine kas_sub (bndG (h s m led I) ?_)
  intro u a σ1 led1 h1 tk1 I1 X1 R1 q1
  refine bndG (q1 _ m led1 I1) ?_
  intro x k σ2 led2 h2 tk2 I2 X2 R2 q2
  refine bndG (q2 _ m led2 u x v I2 (R1.ext X2 I1.rs I1.nd) R2 ((R.ext X1 I.rs I.nd).ext X2 I1.rs I1.nd)) ?_
  intro _ _ σ3 led3 h3 tk3 I3 X3 _ q3
  exact mkA I3 (((X1.trans X2).trans X3).c) (.inr rfl) q3
/-- several stores in order -/
noncomputable def AsL (c : Cx) (w : World) (env : Env) : List (Value → Sem Unit) → List Dat → Vars → Sto → (Vars → Sto → Prop) → Prop
  | [], [], vars, σ, K => K vars σ
  | t :: ts, d :: ds, vars, σ, K => AsG c w env vars σ t d fun v σ1 => AsL c w env ts ds v σ1 K
  | _, _, _, _, _ => False
theorem asL_ok : ∀ {ts : List (Value → Sem Unit)} {ds : List Dat} {vars : Vars} {σ : Sto} {K : Vars → Sto → Prop}, AsL c w env ts ds vars σ K →
    ∀ (s : Shared) (m : Str → Option Value) (led : Led) (vs : List Value), Inv c w env s.heap m led σ vars → RVs w led vs ds → wpAny (model c.prog w) c.A (assignInOrder ts vs) (PostA c w env m led σ s K) Never s
  | [], [], vars, σ, K, h, s, m, led, _, I, .nil => assignInOrder_nil (mkA I .rfl (.inr rfl) h)
  | t :: ts, d :: ds, vars, σ, K, h, s, m, led, _, I, .cons (v := v) (vs := vs) a r => by
    refine assignInOrder_cons (bndA (h s m led v I a) ?_)
    intro _ vars1 m1 σ1 led1 h1 tk1 I1 X1 e1 q1
    exact X1.onA e1 (asL_ok q1 _ m1 led1 vs I1 (r.im (X1.im I)))
  | [], _ :: _, _, _, _, h, _, _, _, _, _, _ => h.elim
  | _ :: _, [], _, _, _, h, _, _, _, _, _, _ => h.elim
theorem AsL.len : ∀ {ts : List (Value → Sem Unit)} {ds : List Dat} {vars : Vars} {σ : Sto} {K : Vars → Sto → Prop}, AsL c w env ts ds vars σ K → ts.length = ds.length ∨ True
  | _, _, _, _, _, _ => .inr trivial
/-- what is taken apart -/
noncomputable def partsD (d : Dat) (σ : Sto) (K : List Dat → Prop) : Prop :=
  match d with
  | .tup l => K l
  | .val (.ref a) => ∃ l, σ a = some (.list l) ∧ K l
  | _ => False
theorem as_tuple (K1 : c.Ok w D) {elts : List Expr} {k : Nat} {p : Pos} {d : Dat} {K : Vars → Sto → Prop} (hs : (assignEach elts env).findIdx? (·.1) = none)
    (h : partsD d σ fun l => (assignEach elts env).length = l.length ∧ AsL c w env ((assignEach elts env).map (·.2)) l vars σ K) : AsG c w env vars σ (assign (.Tuple elts k p) env) d K := by
  intro s m led v I R
  unfold partsD at h
  split at h
  · cases R with
    | tup T r =>
      rename_i vs
      obtain ⟨hl, h⟩ := h
      refine unpackN_ I.F I.N (T.isTup K1 I.F I.N) K1.hh (by rw [List.size_toArray, r.len]; exact hl) hs (fun h' F' N' => ?_)
      have I' := I.next F' N' I.nd I.rs .rfl
      exact ExtC.onA (h1 := h') (tk1 := s.toks) .rfl (.inr rfl) (asL_ok h { s with heap := h' } m led _ I' (by simpa using r))
  · cases R
    obtain ⟨l, el, hl, h⟩ := h
    obtain ⟨o, ho, vs, n, rfl, r⟩ := I.rs _ _ el
    refine kun_list I.F I.N (I.N.isList ho) K1.hh (by rw [List.size_toArray, r.len]; exact hl) hs (fun h' F' N' => ?_)
    have I' := I.next F' N' I.nd I.rs .rfl
    exact ExtC.onA (h1 := h') (tk1 := s.toks) .rfl (.inr rfl) (asL_ok h { s with heap := h' } m led _ I' (by simpa using r))
  · exact h.elim
theorem st_raise {e : Option Expr} {c2 : Option Expr} {pos : Pos} {K : Fl → Vars → Sto → Prop} (h : False) : StG c w env vars σ (exec (.Raise e c2 pos) env) K := h.elim
theorem st_try {body orelse : List Stmt} {h0 : ExceptHandler} {hs : List ExceptHandler} {pos : Pos} {K : Fl → Vars → Sto → Prop}
    (h : StG c w env vars σ (execs body env) fun f v σ1 => match f with | .next => StG c w env v σ1 (execs orelse env) K | f => K f v σ1) : StG c w env vars σ (exec (.Try body (h0 :: hs) orelse [] pos) env) K := by
  intro s m led I
  refine wpAny_Try_except (bndS (h s m led I) ?_)
  intro f fl vars1 m1 σ1 led1 h1 tk1 I1 X1 R1 q1
  cases fl with
  | next =>
    cases R1
    exact X1.on (q1 _ m1 led1 I1)
  | brk => cases R1; exact mkS (fl := .brk) I1 X1 rfl q1
  | cont => cases R1; exact mkS (fl := .cont) I1 X1 rfl q1
  | ret d =>
    obtain ⟨v, rfl, R⟩ := R1
    exact mkS (fl := .ret d) I1 X1 ⟨v, rfl, R⟩ q1
end
end
section
section
variable {c : Cx} {w : World} {env : Env} {vars : Vars} {σ : Sto} {D : Nat} {sc : List (Str × NameKind)}
noncomputable def isTarget : Expr → Bool
  | .Name _ _ => true
  | .Attribute _ _ _ => true
  | .Subscript _ _ _ => true
  | .Tuple _ _ _ => true
  | _ => false
theorem each_one {t : Expr} (h : isTarget t = true) : assignEach [t] env = [(false, assign t env)] := by
  cases t <;> first | rfl | exact Bool.noConfusion (show false = true from h)
theorem st_assignT_at {t e : Expr} {pos : Pos} {K : Fl → Vars → Sto → Prop} {s : Shared} {m : Str → Option Value} {led : Led} (ht : isTarget t = true) (hs : swapsWith e (some t) pos.line env = pure false) (hw : swappedStores [t] e env = pure none)
    (h : wpAny (model c.prog w) c.A (eval e env) (PostG c w env vars (RV w) m led σ s fun d σ1 => AsG c w env vars σ1 (assign t env) d fun v σ2 => K .next v σ2) Never s) : wpAny (model c.prog w) c.A (exec (.Assign [t] e pos) env) (PostS c w env led σ s K) Never s := by
  rw [exec_Assign]
  refine wpAny_bind (wpAny_standAt ?_)
  have e1 : swapsWithSole [t] e pos.line env = pure false := hs
  rw [e1]
  refine wpAny_bind (wpAny_pure ?_)
  rw [if_neg (by decide)]
  refine wpAny_bind (bndG h ?_)
  intro v d σ1 led1 h1 tk1 I1 X1 R1 q1
  rw [hw]
  refine wpAny_bind (wpAny_pure ?_)
  rw [each_one ht]
  show wpAny _ _ (do assignAll v [assign t env]; pure Flow.next) _ _ _
  refine wpAny_bind (bndA (q1 _ m led1 v I1 R1) ?_)
  intro _ vars2 m2 σ2 led2 h2 tk2 I2 X2 _ q2
  exact wpAny_pure (mkS (fl := .next) I2 (X1.c.trans X2) rfl q2)
theorem st_assignT {t e : Expr} {pos : Pos} {K : Fl → Vars → Sto → Prop} (ht : isTarget t = true) (hs : swapsWith e (some t) pos.line env = pure false) (hw : swappedStores [t] e env = pure none)
    (h : Ev c w env vars σ (eval e env) fun d σ1 => AsG c w env vars σ1 (assign t env) d fun v σ2 => K .next v σ2) : StG c w env vars σ (exec (.Assign [t] e pos) env) K := fun s m led I => st_assignT_at ht hs hw (h s m led I)
/-- the names of a display, stored on one line -/
noncomputable def swapNames (sc : List (Str × NameKind)) (ts : List Expr) : List Str :=
  ts.filterMap fun t => match t with
    | .Name id pos => if look sc id == some .local && pos.line == (ts.head?.map (·.pos.line)).getD 0 then some id else none
    | _ => none
theorem no_star : ∀ {vs : List Expr}, noStars vs = true → (vs.any fun | .Starred .. => true | _ => false) = false
  | [], _ => rfl
  | e :: r, h => by
    obtain ⟨h1, h2⟩ := noStars_cons h
    rw [List.any_cons, no_star h2, Bool.or_false]
    cases e <;> first | rfl | exact Bool.noConfusion (show true = false from h1)
/-- does the machine store from behind? -/
noncomputable def swapRoad (sc : List (Str × NameKind)) (ts vs : List Expr) : Option (List Str) :=
  if (!(ts.length == 2 || ts.length == 3) || vs.length != ts.length) = true then none
  else if ((swapNames sc ts).length != ts.length || (swapNames sc ts).eraseDups.length != (swapNames sc ts).length) = true then none
  else if vs.all (foldedForSure 8) = true then none
  else some (swapNames sc ts)
theorem swapped_is {ts vs : List Expr} {k k2 : Nat} {p p2 : Pos} (hk : env.scope.kind = .function) (hn : env.scope.names = sc) (hst : noStars vs = true) (hc : vs.all (constantsAlone 8) = false) :
    swappedStores [.Tuple ts k p] (.Tuple vs k2 p2) env = pure (swapRoad sc ts vs) := by
  have e0 : ∀ id, env.kindOf id = look sc id := fun id => by rw [look_eq, ← hn]; rfl
  have e1 : env.blockKind = .function := by unfold Env.blockKind; rw [hk]; rfl
  have e2 : (env.blockKind != .function) = false := by rw [e1]; rfl
  have e3 := no_star hst
  unfold swappedStores swapRoad
  simp only [e0, e2, hc, Bool.or_false, Bool.false_eq_true, if_false, pure_bind]
  split
  · rfl
  · split
    · rename_i h
      exact absurd (h.symm.trans e3) (by decide)
    · split
      · rename_i h
        have h' : ((swapNames sc ts).length != ts.length || (swapNames sc ts).eraseDups.length != (swapNames sc ts).length) = true := h
        rw [if_pos h']
      · rename_i h
        have h' : ¬ ((swapNames sc ts).length != ts.length || (swapNames sc ts).eraseDups.length != (swapNames sc ts).length) = true := h
        rw [if_neg h']
        split <;> rfl
/-- names stored in order -/
noncomputable def asNames (sc : List (Str × NameKind)) (xs : List Str) : List Dat → Vars → Sto → (Vars → Sto → Prop) → Prop :=
  List.rec (motive := fun _ => List Dat → Vars → Sto → (Vars → Sto → Prop) → Prop) (fun ds v σ K => match ds with
    | [] => K v σ
    | _ => False) (fun x _ ih ds v σ K => match ds with
    | d :: ds => asName sc x d v σ fun v1 σ1 => ih ds v1 σ1 K
    | [] => False) xs
theorem asNames_ok (O : FunOk c env sc) : ∀ {xs : List Str} {ds : List Dat} {vars : Vars} {σ : Sto} {K : Vars → Sto → Prop}, asNames sc xs ds vars σ K → AsL c w env (xs.map fun n => bindName env n) ds vars σ K
  | [], ds, _, _, _, h => by
    cases ds with
    | nil => exact h
    | cons => exact False.elim h
  | x :: xs, ds, vars, σ, K, h => by
    cases ds with
    | nil => exact False.elim h
    | cons d ds => exact fun s m led v I R => bindName_ (bndA (as_name (w := w) (K := fun v1 σ1 => asNames sc xs ds v1 σ1 K) O h s m led v I R) fun _ _ _ _ _ _ _ I X z q => mkA I X z (asNames_ok O q))
theorem RVs.rev {led : Led} {vs : List Value} {ds : List Dat} (h : RVs w led vs ds) : RVs w led vs.reverse ds.reverse := by
  induction vs generalizing ds with
  | nil => cases h; exact .nil
  | cons v vs ih =>
    cases h with
    | cons a r =>
      rw [List.reverse_cons, List.reverse_cons]
      exact (ih r).app (.cons a .nil)
theorem st_assignSw (K1 : c.Ok w D) (O : FunOk c env sc) {ts : List Expr} {k : Nat} {p : Pos} {e : Expr} {pos : Pos} {names : List Str} {K : Fl → Vars → Sto → Prop} (hw : swappedStores [.Tuple ts k p] e env = pure (some names)) (hc : isComp e = false)
    (h : Ev c w env vars σ (eval e env) fun d σ1 => ∃ l, d = .tup l ∧ names.length = l.length ∧ asNames sc names.reverse l.reverse vars σ1 fun v σ2 => K .next v σ2) : StG c w env vars σ (exec (.Assign [.Tuple ts k p] e pos) env) K := by
  intro s m led I
  refine Assign_Tuple_swapped (names := names) (bndG (h s m led I) ?_) (show swapsWith e (some (.Tuple ts k p)) pos.line env = pure false from swaps_no hc) hw
  intro v d σ1 led1 h1 tk1 I1 X1 R1 q1
  obtain ⟨l, rfl, hl, q1⟩ := q1
  cases R1 with
  | tup T r =>
    rename_i vs
    refine unpackItemsN_ I1.F I1.N (T.isTup K1 I1.F I1.N) K1.hh (by rw [List.size_toArray, r.len]; exact hl) (fun h' F' N' => ?_)
    have I' := I1.next F' N' I1.nd I1.rs .rfl
    refine bndA (asL_ok (asNames_ok O q1) { s with heap := h', toks := tk1 } m led1 _ I' (by simpa using r.rev)) ?_
    intro _ vars2 m2 σ2 led2 h2 tk2 I2 X2 _ q2
    exact mkS (fl := .next) I2 (X1.c.trans X2) rfl q2
/-- an item stored -/
noncomputable def refSet (a : Addr) (k d : Dat) (σ : Sto) (Q : Sto → Prop) : Prop :=
  match k with
  | .int i => ∃ l, σ a = some (.list l) ∧ 0 ≤ i ∧ i < l.length ∧ l.length ≤ 1000 ∧ Q (σ.set a (.list (l.set i.toNat d)))
  | .str x => ∃ l, σ a = some (.dict l) ∧ l.length ≤ 50 ∧ Q (σ.set a (.dict (putD l x d)))
  | _ => False
where
  putD (l : List (Str × Dat)) (x : Str) (d : Dat) : List (Str × Dat) :=
    match l.any fun p => sEq p.1 x with
    | true => l.map fun p => match sEq p.1 x with | true => (p.1, d) | false => p
    | false => l ++ [(x, d)]
noncomputable def setItemD (a k d : Dat) (σ : Sto) (Q : Sto → Prop) : Prop := refD a fun a => refSet a k d σ Q
theorem RVs.setAt {led : Led} {v : Value} {d : Dat} (R : RV w led v d) : ∀ {vs : List Value} {ds : List Dat} {j : Nat}, RVs w led vs ds → RVs w led (vs.set j v) (ds.set j d)
  | _, _, _, .nil => .nil
  | _, _, 0, .cons _ r => .cons R r
  | _, _, j + 1, .cons a r => .cons a (r.setAt R)
theorem RKs.len {led : Led} : ∀ {es : List (Str × Value)} {fs : List (Str × Dat)}, RKs w led es fs → es.length = fs.length
  | _, _, .nil => rfl
  | _, _, .cons _ rs => by rw [List.length_cons, List.length_cons, rs.len]
theorem dec_sEq {y x : Str} : decide (y = x) = sEq y x := by
  cases q : sEq y x with
  | true => exact decide_eq_true (sEq_iff.mp q)
  | false => exact decide_eq_false fun e => by rw [sEq_iff.mpr e] at q; cases q
theorem RKs.any {led : Led} {x : Str} : ∀ {es : List (Str × Value)} {fs : List (Str × Dat)}, RKs w led es fs → (es.any fun kv => decide (kv.1 = x)) = fs.any fun p => sEq p.1 x
  | _, _, .nil => rfl
  | _, _, .cons (x := y) _ rs => by
    rw [List.any_cons, List.any_cons, rs.any]
    dsimp only
    rw [dec_sEq]
theorem RKs.map {led : Led} {x : Str} {v : Value} {d : Dat} (R : RV w led v d) : ∀ {es : List (Str × Value)} {fs : List (Str × Dat)}, RKs w led es fs → RKs w led (es.map fun kv => if kv.1 = x then (kv.1, v) else kv) (fs.map fun p => match sEq p.1 x with | true => (p.1, d) | false => p)
  | _, _, .nil => .nil
  | _, _, .cons (x := y) (v := u) (d := e) a rs => by
    rw [List.map_cons, List.map_cons]
    dsimp only
    cases q : sEq y x with
    | true => rw [if_pos (sEq_iff.mp q)]; exact .cons R (rs.map R)
    | false => rw [if_neg fun e => by rw [sEq_iff.mpr e] at q; cases q]; exact .cons a (rs.map R)
theorem RKs.app {led : Led} : ∀ {es es' : List (Str × Value)} {fs fs' : List (Str × Dat)}, RKs w led es fs → RKs w led es' fs' → RKs w led (es ++ es') (fs ++ fs')
  | _, _, _, _, .nil, h => h
  | _, _, _, _, .cons a r, h => .cons a (r.app h)
theorem RKs.put {led : Led} {x : Str} {v : Value} {d : Dat} {es : List (Str × Value)} {fs : List (Str × Dat)} (R : RV w led v d) (r : RKs w led es fs) : RKs w led (stored es x v) (refSet.putD fs x d) := by
  unfold stored refSet.putD
  rw [r.any]
  cases fs.any fun p => sEq p.1 x with
  | true => rw [if_pos rfl]; exact r.map R
  | false => rw [if_neg (by decide)]; exact r.app (.cons R .nil)
theorem pairs_of {p q : Program} {es : List DictEntry} {kvs : List (Str × Value)} (h : Pairs (PySem.strKind p w) es kvs) : Pairs (PySem.strKind q w) es kvs := by
  induction h with
  | nil => exact .nil
  | cons a b _ ih => exact .cons a b ih
theorem dict_cls {prog : Program} {o : Obj} {kvs : List (Str × Value)} (h : o.IsDictOf (PySem.strKind prog w) kvs) : o.cls = .type "dict" := by
  obtain ⟨es, ep, a, _⟩ := h
  exact a.1
theorem TD.of {o : Obj} {kvs : List (Str × Value)} {prog : Program} (h : o.IsDictOf (PySem.strKind prog w) kvs) : TD w o kvs := fun q => by
  obtain ⟨es, ep, a, b, c, d, e⟩ := h
  exact ⟨es, ep, a, b, c, pairs_of d, e⟩
theorem op_setItem {a k d : Dat} {Q : Sto → Prop} (h : setItemD a k d σ Q) {s : Shared} {m : Str → Option Value} {led : Led} {u x v : Value}
    (I : Inv c w env s.heap m led σ vars) (Ra : RV w led u a) (Rk : RV w led x k) (Rv : RV w led v d) : wpAny (model c.prog w) c.A (setItem u x v) (PostG c w env vars (fun _ (_ : Unit) (_ : Unit) => True) m led σ s fun _ σ => Q σ) Never s := by
  refine refD_ok h Ra fun a h => ?_
  cases Rk with
  | int i t =>
    obtain ⟨l, el, h0, h1, hz, q⟩ := h
    obtain ⟨o, ho, vs, n, rfl, r⟩ := I.rs _ _ el
    have z := I.N _ ho
    have hs : vs.toArray.size = l.length := by rw [List.size_toArray, r.len]
    refine ki_setAt z.1 h0 (by omega) (by omega) ?_
    have hs' : Heap.SameBut a s.heap (s.heap.update a (Obj.mapSeq (·.setIfInBounds i.toNat v))) := Heap.SameBut.update ..
    have e1 : ((lstO vs n).mapSeq (·.setIfInBounds i.toNat v)) = lstO (vs.set i.toNat v) n := by
      show ({ cls := .type "list", data := .seq (vs.toArray.setIfInBounds i.toNat v) (if (vs.toArray.setIfInBounds i.toNat v).size == vs.toArray.size then n else n + 1) } : Obj) = { cls := .type "list", data := .seq (vs.set i.toNat v).toArray n }
      rw [Array.size_setIfInBounds, beq_self_eq_true, if_pos rfl, List.setIfInBounds_toArray]
    exact mkG (b := ()) (I.lset el nh_list (I.F.change hs' z.2.1 z.2.2) (news_lset I.N ho ((Heap.get?_update_self _ z.1 rfl).trans (congrArg some e1)) fun b ob q e => hs'.extBut _ _ q e) (mo := .list (l.set i.toNat d)) ⟨_, n, rfl, r.setAt Rv⟩) (Ext.set el nh_list) trivial q
  | str x t =>
    obtain ⟨l, el, hz, q⟩ := h
    obtain ⟨o, ho, hcl, kvs, hT, r⟩ := I.rs _ _ el
    refine kda_set I.F I.N (updF_of ho I.nd) (hT c.prog) (strKind_is _ _ _ _) (by rw [r.len, sizeLine_eq]; omega) (fun h' o' F' N' hd => ?_)
    exact mkG (b := ()) (I.lset el nh_dict F' N' (mo := .dict (refSet.putD l x d)) ⟨dict_cls hd, _, TD.of hd, r.put Rv⟩) (Ext.set el nh_dict) trivial q
  | _ => exact False.elim h
/-- += of ints -/
theorem op_iadd {a b : Dat} {Q : Dat → Sto → Prop} (h : ∃ x y, a = .int x ∧ b = .int y ∧ Q (.int (x + y)) σ) : Op2 c w env vars σ (inplaceOp .Add) a b Q := by
  obtain ⟨x, y, rfl, rfl, q⟩ := h
  intro s m led u v I Ru Rv
  cases Ru; cases Rv
  exact iadd_int (PostG.same I (.int _ _) q)
theorem ld_var {x : Str} {d : Dat} {Q : Dat → Sto → Prop} (O : EnvOk env sc) (hx : okName x = true) (e : look vars x = some d) (h : Q d σ) : Ev c w env vars σ (loadName env x) Q := by
  intro s m led I
  obtain ⟨v, V, R⟩ := I.rv x d e
  cases V with
  | loc hl hk hm => exact wpAny_loadName_local O.hk hk (hl ▸ I.F.ns) hm (PostG.here I R h)
  | cell hk hk2 hc hm hd _ =>
    rcases hk2 with rfl | rfl
    · exact wpAny_loadName_cell O.hk hk hc ⟨_, I.N.get hm, hd⟩ (PostG.here I R h)
    · exact wpAny_loadName_free O.hk hk hc ⟨_, I.N.get hm, hd⟩ (PostG.here I R h) (okName_2 hx)
  | comp hk hm hn hv _ => exact wpAny_loadName_local O.hk hk (hn.ns (I.N.get hm)) hv (PostG.here I R h)
theorem st_augName {x : Str} {p : Pos} {op : Operator} {e : Expr} {pos : Pos} {K : Fl → Vars → Sto → Prop}
    (h : Ev c w env vars σ (loadName env x) fun a σ1 => Ev c w env vars σ1 (eval e env) fun b σ2 => Op2 c w env vars σ2 (inplaceOp op) a b fun d σ3 => AsG c w env vars σ3 (fun v => storeName env x v) d fun v σ4 => K .next v σ4) :
    StG c w env vars σ (exec (.AugAssign (.Name x p) op e pos) env) K := by
  intro s m led I
  refine wpAny_AugAssign_Name (bndG (h s m led I) ?_)
  intro v1 a σ1 led1 h1 tk1 I1 X1 R1 q1
  refine bndG (q1 _ m led1 I1) ?_
  intro v2 b σ2 led2 h2 tk2 I2 X2 R2 q2
  refine bndG (q2 _ m led2 v1 v2 I2 (R1.ext X2 I1.rs I1.nd) R2) ?_
  intro v3 d σ3 led3 h3 tk3 I3 X3 R3 q3
  refine bndA (q3 _ m led3 v3 I3 R3) ?_
  intro _ vars4 m4 σ4 led4 h4 tk4 I4 X4 _ q4
  exact mkS (fl := .next) I4 (((X1.trans X2).trans X3).c.trans X4) rfl q4
theorem st_augAttr {o : Expr} {name : Str} {p : Pos} {op : Operator} {e : Expr} {pos : Pos} {K : Fl → Vars → Sto → Prop}
    (h : Ev c w env vars σ (eval o env) fun a σ1 => Op1 c w env vars (RV w) σ1 (fun v => getAttr v name true) a fun x σ2 => Ev c w env vars σ2 (eval e env) fun y σ3 => Op2 c w env vars σ3 (inplaceOp op) x y fun d σ4 =>
      ∀ s m led u v, Inv c w env s.heap m led σ4 vars → RV w led u a → RV w led v d → wpAny (model c.prog w) c.A (setAttr u name v) (PostG c w env vars (fun _ (_ : Unit) (_ : Unit) => True) m led σ4 s fun _ σ => K .next vars σ) Never s) :
    StG c w env vars σ (exec (.AugAssign (.Attribute o name p) op e pos) env) K := by
  intro s m led I
  refine wpAny_AugAssign_AttributeAny (bndG (h s m led I) ?_)
  intro u a σ1 led1 h1 tk1 I1 X1 R1 q1
  refine bndG (q1 _ m led1 u I1 R1) ?_
  intro v2 x σ2 led2 h2 tk2 I2 X2 R2 q2
  refine bndG (q2 _ m led2 I2) ?_
  intro v3 y σ3 led3 h3 tk3 I3 X3 R3 q3
  refine bndG (q3 _ m led3 v2 v3 I3 (R2.ext X3 I2.rs I2.nd) R3) ?_
  intro v4 d σ4 led4 h4 tk4 I4 X4 R4 q4
  refine bndG (q4 _ m led4 u v4 I4 (((R1.ext X2 I1.rs I1.nd).ext X3 I2.rs I2.nd).ext X4 I3.rs I3.nd) R4) ?_
  intro _ _ σ5 led5 h5 tk5 I5 X5 _ q5
  exact mkS (fl := .next) I5 (((((X1.trans X2).trans X3).trans X4).trans X5).c) rfl q5
theorem st_while {test : Expr} {body orelse : List Stmt} {pos : Pos} {K : Fl → Vars → Sto → Prop} (J : Nat → Vars → Sto → Prop)
    (turn : ∀ n v σ, J n v σ → EvB c w env v σ (isTrue test env (eval test env)) fun b σ1 => if b = true then StG c w env v σ1 (execs body env) fun f v1 σ2 => match f with
        | .next => ∃ n' v', n' < n ∧ SubV v' v1 ∧ J n' v' σ2
        | .cont => ∃ n' v', n' < n ∧ SubV v' v1 ∧ J n' v' σ2
        | .brk => K .next v1 σ2
        | .ret d => K (.ret d) v1 σ2
      else StG c w env v σ1 (execs orelse env) K) {n : Nat} (h : J n vars σ) : StG c w env vars σ (exec (.While test body orelse pos) env) K := by
  intro s m led I
  refine whl_start 0 ?_
  have key : ∀ n k vars σ s m led, Inv c w env s.heap m led σ vars → J n vars σ → WhlRest c.prog w c.A Never env test body orelse (PostS c w env led σ s K) k s := by
    intro n
    induction n using Nat.strongRecOn with
    | ind n ih =>
      intro k vars σ s m led I hJ
      refine (whl_turn (k := k) PassesOwn.never ?_ : WhlRest c.prog w c.A Never env test body orelse (PostS c w env led σ s K) (k + 1) s)
      refine bndB (turn n vars σ hJ s m led I) ?_
      intro b σ1 led1 h1 tk1 I1 X1 q1
      cases b with
      | false => exact WhlIf.no rfl (X1.c.on (q1 _ m led1 I1))
      | true =>
        refine WhlIf.yes rfl (bndS (q1 _ m led1 I1) ?_)
        intro f fl vars2 m2 σ2 led2 h2 tk2 I2 X2 R2 q2
        have again : (∃ n' v', n' < n ∧ SubV v' vars2 ∧ J n' v' σ2) → WhlRest c.prog w c.A Never env test body orelse (PostS c w env led σ s K) k { s with heap := h2, toks := tk2 } := fun ⟨n', v', hn, S, hJ'⟩ =>
          codeAny_mono (ih n' hn k v' σ2 { s with heap := h2, toks := tk2 } m2 led2 (I2.subV S) hJ') fun r s' z => by
            cases r with
            | ok f => exact (show PostS c w env led2 σ2 { s with heap := h2, toks := tk2 } K f s' from z).up (X1.c.trans X2)
            | error e => exact z
        cases fl with
        | next => cases R2; exact again q2
        | cont => cases R2; exact again q2
        | brk => cases R2; exact mkS (fl := .next) I2 (X1.c.trans X2) rfl q2
        | ret d =>
          obtain ⟨v, rfl, R⟩ := R2
          exact mkS (fl := .ret d) I2 (X1.c.trans X2) ⟨v, rfl, R⟩ q2
  exact key n 0 vars σ s m led I h
end
end
section
set_option backward.match.sparseCases false
noncomputable def Sto.del (σ : Sto) (a : Addr) : Sto := fun b => if b = a then some .held else σ b
theorem Sto.del_same {σ : Sto} {a : Addr} : σ.del a a = some .held := if_pos rfl
theorem Sto.del_ne {σ : Sto} {a b : Addr} (h : b ≠ a) : σ.del a b = σ b := if_neg h
theorem ne_sto {σ : Sto} {a b : Addr} {mo : MO} (e : σ a = some mo) (h : σ b = none) : b ≠ a := fun q => by rw [q, e] at h; cases h
theorem Sto.del_none {σ : Sto} {a b : Addr} {mo : MO} (e : σ a = some mo) (h : σ b = none) : σ.del a b = none := (Sto.del_ne (ne_sto e h)).trans h
theorem Sto.del_set {σ : Sto} {a : Addr} {mo : MO} (h : σ a = some mo) : (σ.del a).set a mo = σ := by
  funext b
  by_cases e : b = a
  · rw [e, Sto.set_same, h]
  · rw [Sto.set_ne e, Sto.del_ne e]
/-- fewer names known -/
noncomputable def Fewer (v' v : Vars) : Prop := ∀ x d, look v' x = some d → look v x = some d
/-- the turns of a for, one item after another -/
noncomputable def ForR (c : Cx) (w : World) (env : Env) (target : Expr) (body : List Stmt) (K : Fl → Vars → Sto → Prop) : List Dat → Vars → Sto → Prop
  | [], v, σ => ∃ v', Fewer v' v ∧ K .next v' σ
  | d :: ds, v, σ => ∃ v', Fewer v' v ∧ AsG c w env v' σ (assign target env) d fun v1 σ1 => StG c w env v1 σ1 (execs body env) fun f v2 σ2 => match f with
    | .next => ForR c w env target body K ds v2 σ2
    | .cont => ForR c w env target body K ds v2 σ2
    | .brk => K .next v2 σ2
    | .ret d => K (.ret d) v2 σ2
/-- the items that an iterator gives are the data -/
inductive ItR (w : World) (led : Led) : List Itm → List Dat → Prop
  | nil : ItR w led [] []
  | cons {a : Itm} {d : Dat} {xs : List Itm} {ds : List Dat} : (∀ v h led', Im led led' → a.Is v h → RV w led' v d) → ItR w led xs ds → ItR w led (a :: xs) (d :: ds)
theorem Im.trans {l l' l'' : Led} (h : Im l l') (h' : Im l' l'') : Im l l'' := fun a o hi x => h' a o hi (h a o hi x)
theorem RVs.itr {w : World} {led : Led} : ∀ {vs : List Value} {ds : List Dat}, RVs w led vs ds → ItR w led (vs.map .val) ds
  | _, _, .nil => .nil
  | _, _, .cons (v := v) a r => .cons (fun u h led' im e => by
      have e' : u = v := e
      rw [e']; exact a.im im) r.itr
section
variable {c : Cx} {w : World} {env : Env} {vars : Vars} {σ : Sto} {D : Nat} {sc : List (Str × NameKind)}
noncomputable def InvS (c : Cx) (w : World) (env : Env) (m : Str → Option Value) (led : Led) (σ : Sto) (vars : Vars) : Prop := ∀ h, Fr c.h0 c.L h m → News c.h0 c.L h led → Inv c w env h m led σ vars
theorem Inv.st {h : Heap} {m : Str → Option Value} {led : Led} (I : Inv c w env h m led σ vars) : InvS c w env m led σ vars := fun h F N => ⟨F, N, I.nd, I.rs, I.rv, I.cl, I.lo⟩
theorem VarIs.sto {led : Led} {σ' : Sto} {m : Str → Option Value} {x : Str} {v : Value} (z : ∀ a o, (a, o) ∈ led → σ a = none → (∃ u, o.data = .cell u) ∨ a = env.locals → σ' a = none) : VarIs c env m led σ x v → VarIs c env m led σ' x v
  | .loc a b d => .loc a b d
  | .cell a b d e f g => .cell a b d e f (z _ _ e g (.inl ⟨_, f⟩))
  | .comp a b d e g => .comp a b d e (z _ _ b g (.inr rfl))
/-- another store over the same ledger -/
theorem Inv.sto {h : Heap} {m : Str → Option Value} {led : Led} {σ' : Sto} (I : Inv c w env h m led σ vars) (rs : RS w led σ') (z : ∀ a o, (a, o) ∈ led → σ a = none → (∃ u, o.data = .cell u) ∨ a = env.locals → σ' a = none) : Inv c w env h m led σ' vars :=
  ⟨I.F, I.N, I.nd, rs, fun x d e => let ⟨v, V, R⟩ := I.rv x d e; ⟨v, V.sto z, R⟩, fun x ca e => let ⟨o, v, a, b, g⟩ := I.cl x ca e; ⟨o, v, a, b, z _ _ a g (.inl ⟨_, b⟩)⟩, I.lo.imp id fun ⟨o, m2, a, b, g⟩ => ⟨o, m2, a, b, z _ _ a g (.inr rfl)⟩⟩
theorem Inv.del {h : Heap} {m : Str → Option Value} {led : Led} (I : Inv c w env h m led σ vars) {a : Addr} {ds : List Dat} (e : σ a = some (.list ds)) : Inv c w env h m led (σ.del a) vars :=
  I.sto (fun b mo eb => by
    by_cases q : b = a
    · rw [q, Sto.del_same] at eb
      cases eb
      obtain ⟨o, ho, r⟩ := I.rs a _ e
      exact ⟨o, q ▸ ho, r.cls0⟩
    · rw [Sto.del_ne q] at eb; exact I.rs b mo eb) fun _ _ _ g _ => Sto.del_none e g
/-- an object that is nobody's, laid aside -/
noncomputable def noAt (led : Led) (I : Addr) : Led := led.filter fun p => p.1 != I
theorem noAt_mem {led : Led} {I : Addr} {p : Addr × Obj} : p ∈ noAt led I ↔ p ∈ led ∧ p.1 ≠ I := by
  unfold noAt
  rw [List.mem_filter]
  simp
theorem noAt_nd {led : Led} {I : Addr} (h : ND led) : ND (noAt led I) := by
  unfold ND noAt at *
  exact h.sublist (List.Sublist.map _ List.filter_sublist)
theorem Inv.noAt {h : Heap} {m : Str → Option Value} {led : Led} {I : Addr} {o : Obj} (J : Inv c w env h m led σ vars) (hm : (I, o) ∈ led) (hn : σ I = none) (ho : Mut o) (hc : ∀ x, env.cells.lookup x ≠ some I) (hl : env.locals ≠ I) :
    Inv c w env h m (noAt led I) σ vars := by
  have im : Im led (Mine.noAt led I) := fun a ob hi x => noAt_mem.mpr ⟨x, fun e => by
    have e' : a = I := e
    rw [e'] at x
    rw [J.nd.eq hm x] at ho
    exact ho hi⟩
  refine ⟨J.F, fun p hp => J.N p (noAt_mem.mp hp).1, noAt_nd J.nd, fun a mo e => ?_, fun x d e => ?_, fun x ca e => ?_, J.lo.imp id fun ⟨o, m2, a, b, g⟩ => ⟨o, m2, noAt_mem.mpr ⟨a, hl⟩, b, g⟩⟩
  · obtain ⟨ob, hb, r⟩ := J.rs a mo e
    exact ⟨ob, noAt_mem.mpr ⟨hb, fun q => by rw [show a = I from q, hn] at e; cases e⟩, r.im im⟩
  · obtain ⟨v, V, R⟩ := J.rv x d e
    refine ⟨v, ?_, R.im im⟩
    cases V with
    | loc a b d => exact .loc a b d
    | cell a b d e f g => exact .cell a b d (noAt_mem.mpr ⟨e, fun q => hc x (by rw [d]; exact congrArg some q)⟩) f g
    | comp a b d e g => exact .comp a (noAt_mem.mpr ⟨b, hl⟩) d e g
  · obtain ⟨ob, v, a, b, g⟩ := J.cl x ca e
    exact ⟨ob, v, noAt_mem.mpr ⟨a, fun q => hc x (by rw [e]; exact congrArg some q)⟩, b, g⟩
theorem for_items {target : Expr} {body : List Stmt} {K : Fl → Vars → Sto → Prop} {Q : Flow → Shared → Prop} {s0 s : Shared} {led0 : Led} {σ0 : Sto} {I : Addr} {nm : String} {keep : Led} (hl : env.locals = c.L) (hnm : nm ≠ "tuple" ∧ nm ≠ "range") (hQ : ∀ f s', PostS c w env led0 σ0 s0 K f s' → Q f s')
    (hs : ∃ h tk, s = { s0 with heap := h, toks := tk }) (hk0 : ∀ p ∈ keep, p ∈ led0 ∧ Fz σ0 p.1 ∧ ¬ Own env p.1) (hkI : ∀ p ∈ keep, p.1 ≠ I) :
    ∀ (xs : List Itm) (ds : List Dat) (vars : Vars) (σ : Sto) (m : Str → Option Value) (news : Led), ItR w led0 xs ds → InvS c w env m news σ vars → ND news → (∀ p ∈ news, p.1 ≠ I) → σ I = none → ExtC env σ0 led0 σ news → Im led0 news → ForR c w env target body K ds vars σ →
      ItemsRest c.prog w c.A Never c.h0 env target body Q s [(I, nm)] keep xs m news := by
  obtain ⟨hs1, hs2, rfl⟩ := hs
  intro xs
  induction xs with
  | nil =>
    intro ds vars σ m news it IS nd hI hn X im R
    cases it
    obtain ⟨v', S, R⟩ := R
    refine ItemsRest.zero fun h tk F N => ?_
    rw [hl] at F N
    exact hQ _ _ (mkS (fl := .next) ((IS h F N).sub2 S) X rfl R)
  | cons a xs ih =>
    intro ds vars σ m news it IS nd hI hn X im R
    cases it with
    | cons ha it =>
      rename_i d ds
      obtain ⟨v', S, R⟩ := R
      show ∀ v h tk, a.Is v h → Fr c.h0 env.locals h m → AllObj [(I, nm)] _
      intro v h tk hv F
      refine AllObj.cons fun o ho => AllObj.nil fun N => ?_
      rw [hl] at F N
      have N1 : News c.h0 c.L h news := fun p hp => N p (.tail _ hp)
      have J0 := IS h F N1
      have nd1 : ND ((I, o) :: news) := List.nodup_cons.mpr ⟨fun hm => by
        obtain ⟨p, hp, e⟩ := List.mem_map.mp hm
        exact hI p hp e, nd⟩
      have J1 : Inv c w env h m ((I, o) :: news) σ vars := J0.next F N nd1 (J0.rs.sub fun _ h => .tail _ h) Ext.cons
      have hcI : ∀ x, env.cells.lookup x ≠ some I := fun x e => by
        obtain ⟨ob, v, hb, _⟩ := J0.cl x I e
        exact hI _ hb rfl
      have hLI : env.locals ≠ I := fun e => (N (I, o) (.head _)).2.1 (by rw [← e, hl])
      have ho2 : Mut o := fun hi => by
        have ho' : o.cls = .type nm := ho
        cases hi with
        | tup => injection ho' with q; exact hnm.1 q.symm
        | ins => cases ho'
        | rng => injection ho' with q; exact hnm.2 q.symm
      have X1 : ExtC env σ0 led0 σ ((I, o) :: news) := fun b ob hb e n => ⟨.tail _ (X b ob hb e n).1, (X b ob hb e n).2⟩
      refine bndA (R { s0 with heap := h, toks := tk } m ((I, o) :: news) v (J1.sub2 S) (ha v h _ (im.trans (.of fun _ h => .tail _ h)) hv)) ?_
      intro _ vars2 m2 σ2 led2 h2 tk2 J2 X2 _ R2
      refine bndS (R2 _ m2 led2 J2) ?_
      intro f fl vars3 m3 σ3 led3 h3 tk3 J3 X3 R3 q3
      have X23 := X2.trans X3
      have hoI : ¬ Own env I := by
        rintro (e | ⟨_, x, e⟩)
        · exact hLI e
        · exact hcI x e
      have hI3 := X23.at (.head _) hn hoI
      have fin : ForR c w env target body K ds vars3 σ3 → UnrEndW c.h0 env.locals { s0 with heap := h, toks := tk } [(I, o)] (fun m' n' => SubL keep n' ∧ ItemsRest c.prog w c.A Never c.h0 env target body Q { s0 with heap := hs1, toks := hs2 } [(I, nm)] keep xs m' n') { s0 with heap := h3, toks := tk3 } := fun R => by
        have J4 := J3.noAt hI3.1 hI3.2 ho2 hcI hLI
        have X4 : ExtC env σ0 led0 σ3 (noAt led3 I) := fun b ob hb e n => by
          have z0 := X b ob hb e n
          have z := (X1.trans X23) b ob hb e n
          exact ⟨noAt_mem.mpr ⟨z.1, fun q => hI _ z0.1 q⟩, z.2⟩
        refine ⟨h3, tk3, m3, noAt led3 I, rfl, by rw [hl]; exact J3.F, ?_, fun p hp q hq => ?_, ?_, ih ds vars3 σ3 m3 _ it J4.st J4.nd (fun p hp => (noAt_mem.mp hp).2) hI3.2 X4 ?_ R⟩
        · intro p hp
          rw [hl]
          rcases List.mem_append.mp hp with hp | hp
          · rw [List.mem_singleton.mp hp]; exact J3.N _ hI3.1
          · exact J3.N p (noAt_mem.mp hp).1
        · rw [List.mem_singleton.mp hq]; exact (noAt_mem.mp hp).2
        · have key : ∀ l : Led, (∀ p ∈ l, p ∈ keep) → SubL l (noAt led3 I) := fun l => by
            induction l with
            | nil => intro _; trivial
            | cons p r ihl =>
              intro h
              have hp := h p (.head _)
              refine And.intro ?_ (ihl fun q hq => h q (.tail _ hq))
              obtain ⟨k1, k2, k3⟩ := hk0 p hp
              exact (X4 p.1 p.2 k1 k2 k3).1
          exact key keep fun _ h => h
        · refine im.trans fun b ob hi hb => ?_
          have i2 := ExtC.im J1 X23 b ob hi (.tail _ hb)
          exact noAt_mem.mpr ⟨i2, fun q => hI _ hb q⟩
      cases fl with
      | next => cases R3; exact fin q3
      | cont => cases R3; exact fin q3
      | brk => cases R3; exact hQ _ _ (mkS (fl := .next) J3 (X1.trans X23) rfl q3)
      | ret d =>
        obtain ⟨v, rfl, R⟩ := R3
        exact hQ _ _ (mkS (fl := .ret d) J3 (X1.trans X23) ⟨v, rfl, R⟩ q3)
/-- the ints of a range -/
noncomputable def rngDs (a : Int) (n : Nat) : List Dat := Nat.rec (motive := fun _ => Int → List Dat) (fun _ => []) (fun _ ih a => .int a :: ih (a + 1)) n a
noncomputable def rngIt : Int → Nat → List Itm
  | _, 0 => []
  | a, n + 1 => .tok (fun t => .int a t) :: rngIt (a + 1) n
theorem rngIt_len : ∀ {a : Int} {n : Nat}, (rngIt a n).length = n
  | _, 0 => rfl
  | _, n + 1 => by unfold rngIt; rw [List.length_cons, rngIt_len]
theorem rngIt_at : ∀ {a : Int} {n i : Nat}, i < n → (rngIt a n)[i]? = some (.tok fun t => .int (a + (i : Int)) t)
  | _, 0, _, h => absurd h (Nat.not_lt_zero _)
  | a, n + 1, 0, _ => by
    unfold rngIt
    rw [List.getElem?_cons_zero, show a + ((0 : Nat) : Int) = a from Int.add_zero a]
  | a, n + 1, i + 1, h => by
    unfold rngIt
    rw [List.getElem?_cons_succ, rngIt_at (Nat.lt_of_succ_lt_succ h), show a + 1 + (i : Int) = a + ((i + 1 : Nat) : Int) by omega]
theorem rngIt_ok {w : World} {led : Led} : ∀ {n : Nat} {a : Int}, ItR w led (rngIt a n) (rngDs a n)
  | 0, _ => .nil
  | n + 1, a => .cons (fun v h led' im e => by
      obtain ⟨t, e⟩ := e
      rw [e]; exact .int a t) rngIt_ok
/-- the signs of a text -/
noncomputable def sgDs : List Nat → List Dat
  | [] => []
  | a :: r => .str ⟨#[a]⟩ :: sgDs r
noncomputable def sgIt : List Nat → List Itm
  | [] => []
  | a :: r => .tok (fun t => .str ⟨#[a]⟩ t) :: sgIt r
theorem sgIt_len : ∀ {l : List Nat}, (sgIt l).length = l.length
  | [] => rfl
  | _ :: r => by unfold sgIt; rw [List.length_cons, List.length_cons, sgIt_len]
theorem sgIt_at : ∀ {l : List Nat} {i cp : Nat}, l[i]? = some cp → (sgIt l)[i]? = some (.tok fun t => .str ⟨#[cp]⟩ t)
  | [], _, _, h => by simp at h
  | a :: r, 0, cp, h => by
    rw [List.getElem?_cons_zero] at h
    cases h; rfl
  | a :: r, i + 1, cp, h => by
    rw [List.getElem?_cons_succ] at h
    unfold sgIt
    rw [List.getElem?_cons_succ]; exact sgIt_at h
theorem sgIt_ok {w : World} {led : Led} : ∀ {l : List Nat}, ItR w led (sgIt l) (sgDs l)
  | [] => .nil
  | a :: r => .cons (fun v h led' im e => by
      obtain ⟨t, e⟩ := e
      rw [e]; exact .str _ t) sgIt_ok
/-- an iterable that stands for its items -/
noncomputable def SrcD (xv : Dat) (σ : Sto) (Q : List Dat → (Sto → Sto) → Sto → Prop) : Prop :=
  match xv with
  | .tup ds => Nat.ble ds.length 24 = true ∧ Q ds (fun σ => σ) σ
  | .rng a b => (-1152921504606846976 ≤ a ∧ a ≤ 1152921504606846976 ∧ -1152921504606846976 ≤ b ∧ b ≤ 1152921504606846976) ∧ Q (rngDs a (b - a).toNat) (fun σ => σ) σ
  | .val (.ref a) => ∃ ds, σ a = some (.list ds) ∧ Q ds (fun σ => σ.set a (.list ds)) (σ.del a)
  | .str x => Q (sgDs x.cps.toList) (fun σ => σ) σ
  | _ => False
theorem letGo_own {E : Value → Shared → Prop} {target : Expr} {I : Addr} {v : Value} {Q' : Unit → Shared → Prop} {s' : Shared} {prog : Program} {A : Around} {o : Obj} {n : String} {vs : Array Value} (ho : s'.heap.get? I = some o) (hc : o.cls = .type n) (hd : o.data = .fields vs)
    (hn : ["enumerate", "zip", "dict_itemiterator", "dict_reverseitemiterator", "odict_iterator", "itertools.zip_longest", "itertools.pairwise"].contains n = false) (h : Q' () s') : wpAny (model prog w) A (letOwnedTupleGo target (.ref I) v) Q' E s' := by
  unfold letOwnedTupleGo
  cases target <;> first
    | exact wpAny_pure h
    | (cases v <;> first
        | exact wpAny_pure h
        | (refine wpAny_bind (wpAny_load ho ?_)
           rw [hc, hd]
           simp only [hn, Bool.false_and, Bool.false_eq_true, if_false]
           exact wpAny_pure h))
/-- an iterator of one object, its items told -/
theorem turns_one {A : Around} {target : Expr} {body : List Stmt} {Q : Flow → Shared → Prop} {s : Shared} {m : Str → Option Value} {led : Led} {xs : List Itm} {n : Nat} {P : Nat → Value → Prop} {St : Nat → Heap → Prop} {nm : String} {oi : Obj} {prog : Program} {h0 : Heap}
    (W : Walks prog w A s.heap.objs.size [s.heap.objs.size] [s.heap.objs.size] n P St) (hn : n = xs.length) (hP : ∀ i v, P i v → ∃ a, xs[i]? = some a ∧ ∀ h, a.Is v h)
    (hSt : ∀ i h, St i h → ∃ o vs, h.get? s.heap.objs.size = some o ∧ o.cls = .type nm ∧ o.data = .fields vs)
    (hnm : ["enumerate", "zip", "dict_itemiterator", "dict_reverseitemiterator", "odict_iterator", "itertools.zip_longest", "itertools.pairwise"].contains nm = false) (h0s : St 0 (s.heap.push oi))
    (F : Fr h0 env.locals s.heap m) (N : News h0 env.locals s.heap led) (rest : ItemsRest prog w A Never h0 env target body Q s [(s.heap.objs.size, nm)] [] xs m led) :
    TurnsAt prog w A h0 env target body Q Never (.ref s.heap.objs.size) { s with heap := s.heap.push oi } := by
  refine ktu_core (tk0 := s.toks) (keep := []) (KTurns.ofWalks W fun i v s Q E st q => ?_) hn (fun i v h hp => ?_) (fun i h st => ?_) (fun b hb => ?_) (fun b hb => by simpa using hb) (fun b hb => ?_) ?_ (fun p hp hI => ?_) h0s (F.push _) (fun p hp => ⟨Heap.get?_push_of_some _ (N p hp).1, (N p hp).2⟩) trivial rest
  · obtain ⟨o, vs, h1, h2, h3⟩ := hSt _ _ st
    exact letGo_own h1 h2 h3 hnm q
  · obtain ⟨a, h1, h2⟩ := hP i v hp
    exact ⟨a, h1, h2 h⟩
  · obtain ⟨o, vs, h1, h2, h3⟩ := hSt _ _ st
    exact ⟨[(s.heap.objs.size, o)], ⟨⟨rfl, h2⟩, trivial⟩, fun p hp => by rw [List.mem_singleton.mp hp]; exact h1⟩
  · have hb' : b = s.heap.objs.size := by simpa using hb
    rw [hb']
    exact ⟨List.mem_cons_self .., next_is_new F⟩
  · have hb' : b = s.heap.objs.size := by simpa using hb
    exact .inl (by simp [hb'])
  · intro hm
    exact absurd F.ns.lt ((List.mem_singleton.mp hm) ▸ Nat.lt_irrefl _)
  · exact absurd (Heap.lt_size (N p hp).1) ((List.mem_singleton.mp hI) ▸ Nat.lt_irrefl _)
theorem PostS.mono {led : Led} {s : Shared} {K K' : Fl → Vars → Sto → Prop} {f : Flow} {s' : Shared} (P : PostS c w env led σ s K f s') (q : ∀ f v σ, K f v σ → K' f v σ) : PostS c w env led σ s K' f s' := by
  obtain ⟨fl, vars', m', σ', led', h', tk', e, I, X', R, z⟩ := P
  subst e
  exact mkS I X' R (q _ _ _ z)
theorem RS.put {led : Led} (R : RS w led σ) {a : Addr} {o : Obj} {mo : MO} (h : (a, o) ∈ led) (r : RO w led o mo) : RS w led (σ.set a mo) := fun b mb e => by
  by_cases q : b = a
  · subst q
    rw [Sto.set_same] at e
    cases e
    exact ⟨o, h, r⟩
  · rw [Sto.set_ne q] at e
    exact R b mb e
theorem Fz.del {a b : Addr} (q : b ≠ a) (e : Fz σ b) : Fz (σ.del a) b := e.imp (Sto.del_ne q).trans (Sto.del_ne q).trans
theorem PostS.back {led : Led} {s : Shared} {K : Fl → Vars → Sto → Prop} {f : Flow} {s' : Shared} {a : Addr} {vs : List Value} {k : Nat} {ds : List Dat} {h0 : Heap} {m0 : Str → Option Value} {v0 : Vars} (I0 : Inv c w env h0 m0 led σ v0) (ea : σ a = some (.list ds)) (hm : (a, lstO vs k) ∈ led) (r : RVs w led vs ds)
    (no : ¬ Own env a) (P : PostS c w env led (σ.del a) s (fun f v σ => K f v (σ.set a (.list ds))) f s') : PostS c w env led σ s K f s' := by
  obtain ⟨fl, vars', m', σ', led', h', tk', e, I, X, R, z⟩ := P
  rw [e]
  have z1 := X a _ hm (.inr Sto.del_same) no
  have im := ExtC.im (I0.del ea) X
  exact mkS (I.sto (I.rs.put (mo := .list ds) z1.1 ⟨vs, k, rfl, r.im im⟩) fun b _ _ g _ => (Sto.set_ne (ne_sto (z1.2.trans Sto.del_same) g)).trans g)
    (fun b ob hb eb n => have q := eb.ne ea nh_list; have z := X b ob hb (eb.del q) n; ⟨z.1, (Sto.set_ne q).trans (z.2.trans (Sto.del_ne q))⟩) R z
noncomputable def isSet : Expr → Bool
  | .Set _ _ _ => true
  | _ => false
theorem folded_no {iter : Expr} (h : isSet iter = false) : ∀ x, foldedSetIterable iter env x = pure x := by
  intro x
  cases iter <;> first | rfl | exact Bool.noConfusion (show true = false from h)
theorem small_r {a b : Int} (h : -1152921504606846976 ≤ a ∧ a ≤ 1152921504606846976 ∧ -1152921504606846976 ≤ b ∧ b ≤ 1152921504606846976) : Builtin.Range.small a b 1 = true := small_one (by omega) (by omega) (by omega) (by omega)
theorem st_for (K1 : c.Ok w D) (hl : env.locals = c.L) {target iter : Expr} {body : List Stmt} {pos : Pos} {K : Fl → Vars → Sto → Prop} (hi : isSet iter = false)
    (h : Ev c w env vars σ (eval iter env) fun xv σ1 => SrcD xv σ1 fun ds re σ2 => ForR c w env target body (fun f v σ => K f v (re σ)) ds vars σ2) : StG c w env vars σ (exec (.For target iter body [] pos) env) K := by
  intro s m led I
  have F0 : Fr c.h0 env.locals s.heap m := by rw [hl]; exact I.F
  refine For_turns F0 (bndG (h s m led I) ?_) (folded_no hi) PassesOwn.never
  intro v xv σ1 led1 h1 tk1 I1 X1 R1 q1
  have F1 : Fr c.h0 env.locals h1 m := by rw [hl]; exact I1.F
  have N1 : News c.h0 env.locals h1 led1 := by rw [hl]; exact I1.N
  cases xv with
  | tup ds =>
    obtain ⟨hz, q1⟩ := (show Nat.ble ds.length 24 = true ∧ _ from q1)
    cases R1 with
    | tup T r =>
      rename_i ax vs
      obtain ⟨k, T | T⟩ := T
      · refine iter_tupTurns (s := { s with heap := h1, toks := tk1 }) (lo := tupO vs k) (vs := vs) K1.hh F1 N1 T rfl rfl fun J hJ => ?_
        refine for_items (led0 := led1) (σ0 := σ1) (s0 := { s with heap := h1, toks := tk1 }) hl (by decide) (fun f s' P => P.up X1.c) ⟨h1, tk1, rfl⟩ (fun p hp => ?_) (fun p hp => ?_) _ _ vars σ1 m led1 r.itr I1.st I1.nd (fun p hp => Nat.ne_of_lt (hJ p hp)) (I1.rs.fresh hJ) .rfl (.of fun _ h => h) q1
        · rw [List.mem_singleton.mp hp]
          exact ⟨T, .inl (I1.rs.imm I1.nd (.tup ..) T), own_imm I1 (.tup ..) T⟩
        · rw [List.mem_singleton.mp hp]
          exact Nat.ne_of_lt (hJ _ T)
      · refine iter_tupK (s := { s with heap := h1, toks := tk1 }) (lo := tupO vs k) (vs := vs) K1.hh F1 N1 K1.X T rfl rfl (by rw [r.len]; exact Nat.ble_eq.mp hz) fun J hJ => ?_
        exact for_items (keep := []) (led0 := led1) (σ0 := σ1) (s0 := { s with heap := h1, toks := tk1 }) hl (by decide) (fun f s' P => P.up X1.c) ⟨h1, tk1, rfl⟩ (fun p hp => nomatch hp) (fun p hp => nomatch hp) _ _ vars σ1 m led1 r.itr I1.st I1.nd (fun p hp => Nat.ne_of_lt (hJ p hp)) (I1.rs.fresh hJ) .rfl (.of fun _ h => h) q1
  | rng a b =>
    obtain ⟨z, q1⟩ := (show (-1152921504606846976 ≤ a ∧ a ≤ 1152921504606846976 ∧ -1152921504606846976 ≤ b ∧ b ≤ 1152921504606846976) ∧ _ from q1)
    cases R1 with
    | rng hm =>
      rename_i r t u v
      have hr : IsRange h1 r a b 1 t u v := (I1.N _ hm).1
      refine wpAny_pyIter_range (s := { s with heap := h1, toks := tk1 }) hr (small_r z) ?_
      refine turns_one (s := { s with heap := h1, toks := tk1 }) (nm := "range_iterator") (xs := rngIt a (b - a).toNat) (Walks.range K1.hh _ a 1 (b - a).toNat).bound rngIt_len.symm (fun i v hp => ?_) (fun i h st => ⟨_, _, st, rfl, rfl⟩) (by decide) (by
        show IsRangeIter _ _ _ _ _
        rw [rangeSize_nat]
        simpa using Heap.get?_push_size _ rfl) F1 N1
        (for_items (keep := []) (led0 := led1) (σ0 := σ1) (s0 := { s with heap := h1, toks := tk1 }) hl (by decide) (fun f s' P => P.up X1.c) ⟨h1, tk1, rfl⟩ (fun p hp => nomatch hp) (fun p hp => nomatch hp) _ _ vars σ1 m led1 rngIt_ok I1.st I1.nd (fun p hp => Nat.ne_of_lt (I1.low p hp)) (I1.rs.fresh I1.low) .rfl (.of fun _ h => h) q1)
      obtain ⟨hi, t, rfl⟩ := hp
      exact ⟨_, rngIt_at hi, fun h => ⟨t, by rw [Int.mul_one]⟩⟩
  | val u =>
    cases u with
    | ref a =>
      cases R1
      obtain ⟨ds, ea, q1⟩ := (show ∃ ds, σ1 a = some (.list ds) ∧ _ from q1)
      obtain ⟨o, ho, vs, k, rfl, r⟩ := I1.rs _ _ ea
      have hc : ∀ x, env.cells.lookup x ≠ some a := fun x e => by
        obtain ⟨ob, v, hb, hd, hn⟩ := I1.cl x a e
        rw [hn] at ea; cases ea
      have no : ¬ Own env a := by
        rintro (e | ⟨_, x, e⟩)
        · exact (I1.N _ ho).2.1 (e.symm.trans hl)
        · exact hc x e
      refine iter_listTurns (s := { s with heap := h1, toks := tk1 }) (lo := lstO vs k) (vs := vs) K1.hh F1 N1 ho rfl rfl fun J hJ => ?_
      refine for_items (led0 := led1) (σ0 := σ1.del a) (s0 := { s with heap := h1, toks := tk1 }) hl (by decide) (fun f s' P => (PostS.back I1 ea ho r no P).up X1.c) ⟨h1, tk1, rfl⟩ (fun p hp => ?_) (fun p hp => ?_) _ _ vars (σ1.del a) m led1 r.itr (I1.del ea).st I1.nd (fun p hp => Nat.ne_of_lt (hJ p hp)) (Sto.del_none ea (I1.rs.fresh hJ)) .rfl (.of fun _ h => h) q1
      · rw [List.mem_singleton.mp hp]
        exact ⟨ho, .inr Sto.del_same, no⟩
      · rw [List.mem_singleton.mp hp]
        exact Nat.ne_of_lt (hJ _ ho)
    | _ => exact (show False from q1).elim
  | str x =>
    cases R1
    rename_i t
    have q1 := (show _ from q1)
    have go : ∀ (T : String) (o : Obj), (["enumerate", "zip", "dict_itemiterator", "dict_reverseitemiterator", "odict_iterator", "itertools.zip_longest", "itertools.pairwise"].contains T = false) → (T ≠ "tuple" ∧ T ≠ "range") → Walks c.prog w c.A h1.objs.size [h1.objs.size] [h1.objs.size] x.cps.size (SignAt x) (fun i h => h.IsStrIter h1.objs.size T x t i) →
        (h1.push o).IsStrIter h1.objs.size T x t 0 → TurnsAt c.prog w c.A c.h0 env target body (PostS c w env led σ s K) Never (.ref h1.objs.size) { s with heap := h1.push o, toks := tk1 } := fun T o hT hT2 W hst =>
      turns_one (s := { s with heap := h1, toks := tk1 }) (nm := T) (xs := sgIt x.cps.toList) W (by rw [sgIt_len, Array.length_toList]) (fun i v hp => by
        obtain ⟨cp, u, hc, rfl⟩ := hp
        exact ⟨_, sgIt_at (by rw [Array.getElem?_toList]; exact hc), fun h => ⟨u, rfl⟩⟩) (fun i h st => by
        obtain ⟨o, a1, a2, a3⟩ := st
        exact ⟨o, _, a1, a2, a3⟩) hT hst F1 N1
        (for_items (keep := []) (led0 := led1) (σ0 := σ1) (s0 := { s with heap := h1, toks := tk1 }) hl hT2 (fun f s' P => P.up X1.c) ⟨h1, tk1, rfl⟩ (fun p hp => nomatch hp) (fun p hp => nomatch hp) _ _ vars σ1 m led1 sgIt_ok I1.st I1.nd (fun p hp => Nat.ne_of_lt (I1.low p hp)) (I1.rs.fresh I1.low) .rfl (.of fun _ h => h) q1)
    cases ha : x.cps.all (· < 128)
    · exact wpAny_pyIter_wide ha (go "str_iterator" _ (by decide) (by decide) (Walks.strWide K1.hh _ x t) ⟨_, Heap.get?_push_size _ rfl, rfl, rfl⟩)
    · exact wpAny_pyIter_ascii ha (go "str_ascii_iterator" _ (by decide) (by decide) (Walks.strAscii K1.hh _ x t) ⟨_, Heap.get?_push_size _ rfl, rfl, rfl⟩)
  | _ => exact (show False from q1).elim
end
end
section
set_option backward.match.sparseCases false
section
variable {c : Cx} {w : World} {env : Env} {vars : Vars} {σ : Sto} {D : Nat} {sc : List (Str × NameKind)}
/-- an object of the ledger that is nobody's datum, exchanged -/
theorem Inv.poke {h h' : Heap} {m : Str → Option Value} {led : Led} {a : Addr} {o o' : Obj} (I : Inv c w env h m led σ vars) (hm : (a, o) ∈ led) (hn : σ a = none) (M : Mut o) (hc : ∀ x, env.cells.lookup x ≠ some a) (hl : env.locals ≠ a)
    (ho : h'.get? a = some o') (keep : ∀ b ob, b ≠ a → h.get? b = some ob → h'.get? b = some ob) : Inv c w env h' m (Mine.lset led a o') σ vars := by
  have z := I.N _ hm
  have im := im_lset (o' := o') hm I.nd M
  refine ⟨⟨I.F.ns.at' fun ob e => keep _ _ (Ne.symm z.2.1) e, fun b ob e => keep b ob (fun q => by rw [q, z.2.2] at e; cases e) (I.F.keep b ob e), I.F.above⟩, news_lset I.N hm ho keep, lset_nd I.nd, I.rs.cell I.nd hm M hn, fun x d e => ?_, fun x ca e => ?_, I.lo.imp id fun ⟨ob, m2, p1, p2, p3⟩ => ⟨ob, m2, lset_other p1 hl, p2, p3⟩⟩
  · obtain ⟨v, V, R⟩ := I.rv x d e
    refine ⟨v, ?_, R.im im⟩
    cases V with
    | loc p1 p2 p3 => exact .loc p1 p2 p3
    | cell p1 p2 p3 p4 p5 p6 => exact .cell p1 p2 p3 (lset_other p4 fun q => hc x (by rw [p3]; exact congrArg some q)) p5 p6
    | comp p1 p2 p3 p4 p5 => exact .comp p1 (lset_other p2 hl) p3 p4 p5
  · obtain ⟨ob, v, p1, p2, p3⟩ := I.cl x ca e
    exact ⟨ob, v, lset_other p1 fun q => hc x (by rw [e]; exact congrArg some q), p2, p3⟩
noncomputable def TestR (c : Cx) (w : World) (env : Env) (ifs : List Expr) (v : Vars) (σ : Sto) (K : Bool → Sto → Prop) : Prop :=
  match ifs with
  | [] => K true σ
  | [t] => EvB c w env v σ (isTrue t env (eval t env)) K
  | _ => False
/-- the turns of a comprehension -/
noncomputable def CompR (c : Cx) (w : World) (env : Env) (cv : Vars) (target : Expr) (ifs : List Expr) (elt : Expr) (K : List Dat → Sto → Prop) : List Dat → List Dat → Sto → Prop
  | [], acc, σ => K acc σ
  | d :: ds, acc, σ => AsG c w env cv σ (assign target env) d fun v1 σ1 => TestR c w env ifs v1 σ1 fun b σ2 => if b = true then Ev c w env v1 σ2 (eval elt env) fun r σ3 => CompR c w env cv target ifs elt K ds (acc ++ [r]) σ3 else CompR c w env cv target ifs elt K ds acc σ2
theorem comp_loop {prog : Program} {A : Around} {elt iter target : Expr} {ifs : List Expr} {scope : Scope} {pos : Pos} {it acc : Value} {R : Result → Shared → Prop} {s : Shared} (I : Nat → Shared → Prop)
    (turn : ∀ n s, I n s → wpAny (model prog w) A (pyNext it) (fun r s₁ => match r with
      | none => R (.ok .next) s₁
      | some v => wpAny (model prog w) A (letOwnedTupleGo target it v) (fun _ s₁' => wpAny (model prog w) A (assign target env v) (fun _ s₂ =>
          wpAny (model prog w) A (forIn ifs true fun c r => if r = true then do let ok ← isTrue c env (eval c env); pure (ForInStep.yield ok) else pure (ForInStep.yield r)) (fun ok s₃ =>
            if ok = true then wpAny (model prog w) A (eval elt env) (fun x s₄ =>
              wpAny (model prog w) A (call (.builtin "list.append") [acc, x]) (fun _ s₅ => ∃ m, m < n ∧ I m s₅) Never s₄) Never s₃
            else ∃ m, m < n ∧ I m s₃) Never s₂) Never s₁') Never s₁) Never s)
    (n : Nat) (h : I n s) : codeAny (model prog w) A (.compLoop (.ListComp elt [⟨target, iter, ifs, 0⟩] scope pos) 0 it acc env) R s := by
  have nv : ∀ e s', Never e s' → notedBy (model prog w) A env (fun e s' => R (.error e) s') e s' := fun _ _ => never
  refine codeAny_loop rfl I (fun n s hI => ?_) n h
  show wpAny _ A ((compTurn (.ListComp elt [⟨target, iter, ifs, 0⟩] scope pos) 0 it acc env).onRaise (fun x => do noteFrame x env; theTreesLotGoes x)) _ _ s
  refine wpAny_noted ?_
  rw [compTurn_list]
  refine wpAny_bind (wpAny_standAt (wpAny_bind (wpAny_mono (turn n s hI) (fun r s₁ h₁ => ?_) nv)))
  cases r with
  | none => exact wpAny_pure h₁
  | some v =>
    refine wpAny_bind (wpAny_mono h₁ (fun _ s₁' h₁' => ?_) nv)
    refine wpAny_bind (wpAny_mono h₁' (fun _ s₂ h₂ => wpAny_bind (wpAny_mono h₂ (fun ok s₃ h₃ => ?_) nv)) nv)
    cases ok with
    | false => exact wpAny_pure ⟨rfl, h₃⟩
    | true =>
      exact wpAny_bind (wpAny_bind (wpAny_mono h₃ (fun x s₄ h₄ => wpAny_bind (wpAny_mono h₄ (fun _ s₅ h₅ => wpAny_pure (wpAny_pure ⟨rfl, h₅⟩)) nv)) nv))
theorem tests_ok {v : Vars} {ifs : List Expr} {K : Bool → Sto → Prop} (h : TestR c w env ifs v σ K) {s : Shared} {m : Str → Option Value} {led : Led} (I : Inv c w env s.heap m led σ v) :
    wpAny (model c.prog w) c.A (forIn ifs true fun c r => if r = true then do let ok ← isTrue c env (eval c env); pure (ForInStep.yield ok) else pure (ForInStep.yield r)) (PostG c w env v (fun _ b b' => b = b') m led σ s K) Never s := by
  unfold TestR at h
  split at h
  · exact wpAny_tests_nil (PostG.here I rfl h)
  · exact wpAny_tests_one (h s m led I)
  · exact h.elim
theorem lst_push (ys : List Value) (y : Value) : ({ cls := .type "list", data := .seq (ys.toArray.push y) (ys.length + 1) } : Obj) = lstO (ys ++ [y]) (ys ++ [y]).length := by
  show ({ cls := .type "list", data := .seq (ys.toArray.push y) (ys.length + 1) } : Obj) = { cls := .type "list", data := .seq (ys ++ [y]).toArray (ys ++ [y]).length }
  rw [List.length_append, List.length_singleton, List.push_toArray]
theorem Inv.capt {h h' : Heap} {m m' : Str → Option Value} {led led' : Led} {σ σ' : Sto} {cv v' : Vars} (J : Inv c w env h m led σ cv) (hcv : ∀ x d, look cv x = some d → env.kindOf x ≠ some .local) (J' : Inv c w env h' m' led' σ' v') (hnL : env.locals ≠ c.L)
    (X : ∀ a o, (a, o) ∈ led → σ a = none → a ≠ env.locals → (∀ v, o.data = .cell v → (a, o) ∈ led' ∧ σ' a = none)) (im : Im led led') : Inv c w env h' m' led' σ' cv := by
  refine ⟨J'.F, J'.N, J'.nd, J'.rs, fun x d e => ?_, J'.cl, J'.lo⟩
  obtain ⟨v, V, R⟩ := J.rv x d e
  refine ⟨v, ?_, R.im im⟩
  cases V with
  | loc p1 p2 p3 => exact absurd p2 (hcv x d e)
  | comp p1 p2 p3 p4 p5 => exact absurd p1 (hcv x d e)
  | cell p1 p2 p3 p4 p5 p6 =>
    have q := X _ _ p4 p6 (fun q => by
      rcases J.lo with z | ⟨ob, m2, hb, ⟨es, ep, hd, _⟩, _⟩
      · exact hnL z
      · rw [← q] at hb
        rw [J.nd.eq hb p4, p5] at hd
        cases hd) _ p5
    exact .cell p1 p2 p3 q.1 p5 q.2
/-- the names of a block that are the function's -/
noncomputable def CapOk (env : Env) (cv : Vars) : Prop := ∀ x d, look cv x = some d → env.kindOf x ≠ some .local
theorem drop_at {α : Type} {l : List α} {i : Nat} {d : α} (e : l[i]? = some d) : l.drop i = d :: l.drop (i + 1) := by
  obtain ⟨h, e⟩ := List.getElem?_eq_some_iff.mp e
  rw [List.drop_eq_getElem_cons h, e]
/-- where a comprehension stands between two turns -/
inductive CTurn (c : Cx) (w : World) (env : Env) (cv : Vars) (target : Expr) (ifs : List Expr) (elt : Expr) (K : List Dat → Sto → Prop) (ds : List Dat) (n : Nat) (I L1 : Addr) (St : Nat → Heap → Prop) (led1 : Led) (σ1 : Sto) (m : Str → Option Value) (s : Shared) (k : Nat) (s' : Shared) : Prop
  | mk (h' : Heap) (tk i : Nat) (ys : List Value) (acc : List Dat) (led : Led) (σ : Sto) (oI : Obj) : s' = { s with heap := h', toks := tk } → i ≤ n → k = n + 1 - i → ys.length ≤ i → St i h' → Inv c w env h' m led σ cv → (L1, lstO ys ys.length) ∈ led → (I, oI) ∈ led →
      σ L1 = none → σ I = none → RVs w led ys acc → Ext σ1 led1 σ led → CompR c w env cv target ifs elt K (ds.drop i) acc σ → CTurn c w env cv target ifs elt K ds n I L1 St led1 σ1 m s k s'
theorem own_loc (hf : env.func = none) {a : Addr} (h : Own env a) : a = env.locals := h.elim Eq.symm fun e => absurd hf e.1
theorem lst_mut {ys : List Value} {k : Nat} : Mut (lstO ys k) := .of_cls (.inl rfl)
theorem fld_mut {o : Obj} {vs : Array Value} {nm : String} (hr : nm ≠ "range") (h1 : o.cls = .type nm) (h2 : o.data = .fields vs) : Mut o := fun hi => by
  cases hi with
  | tup => cases h2
  | ins => cases h2
  | rng => injection h1 with q; exact hr q.symm
theorem ns_mut {o : Obj} {m2 : Str → Option Value} (ns : LCg.NsObj o m2) : Mut o := fun hi => by
  obtain ⟨es, ep, hd, _⟩ := ns
  cases hi <;> cases hd
theorem comp_run {elt iter target : Expr} {ifs : List Expr} {scope : Scope} {pos : Pos} {R : Result → Shared → Prop} {cv : Vars} {K : List Dat → Sto → Prop} {I L1 : Addr} {fp : List Addr} {n : Nat} {P : Nat → Value → Prop} {St : Nat → Heap → Prop} {ds : List Dat} {nm : String} {led1 : Led} {σ1 : Sto} {m : Str → Option Value} {s : Shared}
    (hf : env.func = none) (hnL : env.locals ≠ c.L) (hcv : CapOk env cv) (W : Walks c.prog w c.A I fp [I] n P St) (hn : n = ds.length) (hz : n ≤ 100000)
    (hP : ∀ i v led', P i v → Im led1 led' → ∃ d, ds[i]? = some d ∧ RV w led' v d)
    (hSt : ∀ i h, St i h → ∃ o vs, h.get? I = some o ∧ o.cls = .type nm ∧ o.data = .fields vs)
    (hnm : ["enumerate", "zip", "dict_itemiterator", "dict_reverseitemiterator", "odict_iterator", "itertools.zip_longest", "itertools.pairwise"].contains nm = false) (hnm2 : nm ≠ "range")
    (hfp : ∀ b ∈ fp, b = I ∨ (∃ o, (b, o) ∈ led1 ∧ Fz σ1 b) ∨ ∃ o, c.h0.get? b = some o)
    (hI1 : ∀ p ∈ led1, p.1 ≠ I ∧ p.1 ≠ L1 ∧ p.1 ≠ env.locals) (hIC : I ≠ env.locals) (hIL : I ≠ L1) (hLC : L1 ≠ env.locals) (hcel : ∀ x ca, env.cells.lookup x = some ca → ca ≠ I ∧ ca ≠ L1)
    {oI oC : Obj} {m2 : Str → Option Value} (h0 : St 0 s.heap) (J0 : Inv c w env s.heap m ((env.locals, oC) :: (L1, lstO [] 0) :: (I, oI) :: led1) σ1 cv) (hNs : LCg.NsObj oC m2) (nC : σ1 env.locals = none) (nL : σ1 L1 = none) (nI : σ1 I = none)
    (hR : ∀ h tk led σ ys acc, Inv c w env h m led σ cv → (L1, lstO ys ys.length) ∈ led → σ L1 = none → RVs w led ys acc → Ext σ1 led1 σ led → K acc σ → R (.ok .next) { s with heap := h, toks := tk })
    (go : CompR c w env cv target ifs elt K ds [] σ1) :
    codeAny (model c.prog w) c.A (.compLoop (.ListComp elt [⟨target, iter, ifs, 0⟩] scope pos) 0 (.ref I) (.ref L1) env) R s := by
  refine comp_loop (CTurn c w env cv target ifs elt K ds n I L1 St led1 σ1 m s) ?_ (n + 1)
    (.mk s.heap s.toks 0 [] [] _ σ1 oI rfl (Nat.zero_le _) rfl (Nat.zero_le _) h0 J0 (.tail _ (.head _)) (.tail _ (.tail _ (.head _))) nL nI .nil (fun a o h e => ⟨.tail _ (.tail _ (.tail _ h)), rfl⟩) go)
  intro k s' T
  cases T with
  | mk h' tk i ys acc led σ oI' es hi ek hyl st J mL mI eL eI ra X go =>
  subst es ek
  have hcI : ∀ x, env.cells.lookup x ≠ some I := fun x e => (hcel x I e).1 rfl
  have hcL : ∀ x, env.cells.lookup x ≠ some L1 := fun x e => (hcel x L1 e).2 rfl
  have eI' : h'.get? I = some oI' := (J.N _ mI).1
  have mutI : Mut oI' := by
    obtain ⟨o, vs, a1, a2, a3⟩ := hSt _ _ st
    cases eI'.symm.trans a1
    exact fld_mut hnm2 a2 a3
  by_cases hlt : i < n
  · refine W.item i _ _ _ hlt st fun v h1 tk1 hv st1 hk1 => ?_
    obtain ⟨o1, vs1, a1, a2, a3⟩ := hSt _ _ st1
    refine letGo_own (s' := { s with heap := h1, toks := tk1 }) a1 a2 a3 hnm ?_
    have J1 := J.poke mI eI mutI hcI (Ne.symm hIC) a1 fun b ob hb e => hk1 b ob (by simpa using hb) e
    have im1 : Im led1 (lset led I o1) := fun a o hi hm => lset_other (X a o hm (.inl (J0.rs.imm J0.nd hi (List.mem_cons_of_mem _ (List.mem_cons_of_mem _ (List.mem_cons_of_mem _ hm)))))).1 (hI1 _ hm).1
    obtain ⟨d, ed, Rv⟩ := hP i v _ hv im1
    have ed' : ds.drop i = d :: ds.drop (i + 1) := drop_at ed
    rw [ed'] at go
    refine bndA (go { s with heap := h1, toks := tk1 } m _ v J1 Rv) ?_
    intro _ v2 m3 σ2 led2 h2 tk2 J2 X2 em R2
    obtain rfl : m3 = m := em.resolve_left hnL
    refine bndB (tests_ok R2 (s := { s with heap := h2, toks := tk2 }) J2) ?_
    intro b σ3 led3 h3 tk3 J3 X3 R3
    have far : ∀ a o, (a, o) ∈ led → Fz σ a → a ≠ I → a ≠ env.locals → (a, o) ∈ led3 ∧ σ3 a = σ a := fun a o hm hn h1 h2 =>
      have z := X2 a o (lset_other hm h1) hn (fun q => h2 (own_loc hf q))
      have y := X3 a o z.1 (hn.imp z.2.trans z.2.trans)
      ⟨y.1, y.2.trans z.2⟩
    have zI : (I, o1) ∈ led3 ∧ σ3 I = none :=
      have z := X2.at (lset_this mI) eI (fun q => hIC (own_loc hf q))
      X3.at z.1 z.2
    have zL := far _ _ mL (.inl eL) (Ne.symm hIL) hLC
    have eL3 := zL.2.trans eL
    have imJ : Im led led3 := fun a o hi hm => (far a o hm (.inl (J.rs.imm J.nd hi hm)) (fun q => by
      subst q; rw [J.nd.eq hm mI] at hi; exact mutI hi) (fun q => by
      subst q
      obtain ⟨oC', m2', mC, ns, _⟩ := J.lo.resolve_left hnL
      rw [J.nd.eq hm mC] at hi; exact ns_mut ns hi)).1
    have cellX : ∀ (led' : Led) (σ' : Sto), (∀ a o, (a, o) ∈ led3 → σ3 a = none → a ≠ L1 → (a, o) ∈ led' ∧ σ' a = none) → ∀ a o, (a, o) ∈ led → σ a = none → a ≠ env.locals → (∀ v, o.data = .cell v → (a, o) ∈ led' ∧ σ' a = none) := fun led' σ' Y a o hm hn h2 v hd => by
      have h1 : a ≠ I := fun q => by
        subst q
        obtain ⟨o', vs, b1, b2, b3⟩ := hSt _ _ st
        cases (J.N _ hm).1.symm.trans b1
        cases hd.symm.trans b3
      have h3 : a ≠ L1 := fun q => by
        subst q
        rw [J.nd.eq hm mL] at hd
        cases hd
      have z := far a o hm (.inl hn) h1 h2
      exact Y a o z.1 (z.2.trans hn) h3
    have stK : ∀ h5 led5 σ5, Inv c w env h5 m3 led5 σ5 cv → (I, o1) ∈ led5 → Ext σ1 led1 σ5 led5 → St (i + 1) h5 := fun h5 led5 σ5 J5 mI5 X5 => W.frame _ _ _ st1 fun b hb o e => by
      rcases hfp b hb with rfl | ⟨o', ho', hn'⟩ | ⟨o', ho'⟩
      · cases a1.symm.trans e
        exact (J5.N _ mI5).1
      · cases (J1.N _ (lset_other (X b o' ho' hn').1 (hI1 _ ho').1)).1.symm.trans e
        exact (J5.N _ (X5 b _ ho' hn').1).1
      · cases (J1.F.keep b o' ho').symm.trans e
        exact J5.F.keep b _ ho'
    have farX : ∀ {led' : Led} {σ' : Sto}, (∀ a o, (a, o) ∈ led3 → Fz σ3 a → a ≠ L1 → (a, o) ∈ led' ∧ σ' a = σ3 a) → Ext σ1 led1 σ' led' := fun Y a o hm hn =>
      have z := X a o hm hn
      have y := far a o z.1 (hn.imp z.2.trans z.2.trans) (hI1 _ hm).1 (hI1 _ hm).2.2
      have e := y.2.trans z.2
      have u := Y a o y.1 (hn.imp e.trans e.trans) (hI1 _ hm).2.1
      ⟨u.1, u.2.trans e⟩
    cases b with
    | false =>
      have J4 : Inv c w env h3 m3 led3 σ3 cv := J.capt hcv J3 hnL (cellX led3 σ3 fun a o hm hn _ => ⟨hm, hn⟩) imJ
      have X4 : Ext σ1 led1 σ3 led3 := farX fun a o hm _ _ => ⟨hm, rfl⟩
      exact ⟨n + 1 - (i + 1), by omega, .mk h3 tk3 (i + 1) ys acc led3 σ3 o1 rfl hlt rfl (Nat.le_succ_of_le hyl) (stK _ _ _ J4 zI.1 X4) J4 zL.1 zI.1 eL3 zI.2 (ra.im imJ) X4 R3⟩
    | true =>
      refine bndG (R3 { s with heap := h3, toks := tk3 } m3 led3 J3) ?_
      intro y r σ4 led4 h4 tk4 J4 X4 R4 go4
      have zL4 := X4.at zL.1 eL3
      have zI4 := X4.at zI.1 zI.2
      refine append_at (its := ys.toArray) (n := ys.length) (s := { s with heap := h4, toks := tk4 }) (hsz := by rw [List.size_toArray, sizeLine_eq]; omega) (J4.N _ zL4.1).1 fun h5 hs5 hD5 => ?_
      have J5' := J4.poke (o' := lstO (ys ++ [y]) (ys ++ [y]).length) zL4.1 zL4.2 lst_mut hcL (Ne.symm hLC) (hD5.trans (congrArg some (lst_push ys y))) fun b ob hb e => (hs5.2 b hb).trans e
      have im34 : Im led3 led4 := X4.im J3.rs J3.nd
      have im45 : Im led4 (lset led4 L1 (lstO (ys ++ [y]) (ys ++ [y]).length)) := im_lset zL4.1 J4.nd lst_mut
      have im04 := (imJ.trans im34).trans im45
      have J5 : Inv c w env h5 m3 _ σ4 cv := J.capt hcv J5' hnL (cellX _ σ4 fun a o hm hn h3 => have z := X4.at hm hn; ⟨lset_other z.1 h3, z.2⟩) im04
      have X5 : Ext σ1 led1 σ4 (lset led4 L1 (lstO (ys ++ [y]) (ys ++ [y]).length)) := farX fun a o hm hn h3 => have z := X4 a o hm hn; ⟨lset_other z.1 h3, z.2⟩
      exact ⟨n + 1 - (i + 1), by omega, .mk h5 tk4 (i + 1) (ys ++ [y]) (acc ++ [r]) _ σ4 o1 rfl hlt rfl (by rw [List.length_append, List.length_singleton]; exact Nat.succ_le_succ hyl) (stK _ _ _ J5 (lset_other zI4.1 hIL) X5) J5 (lset_this zL4.1) (lset_other zI4.1 hIL) zL4.2 zI4.2 ((ra.im im04).app (.cons (R4.im im45) .nil)) X5 go4⟩
  · have hin : i = n := by omega
    subst hin
    refine W.done _ _ _ st fun h1 tk1 hk1 => ?_
    rw [List.drop_of_length_le (by omega)] at go
    have J1 := J.noAt mI eI mutI hcI (Ne.symm hIC)
    have zI := J.N _ mI
    have hk : ∀ b ob, b ≠ I → h'.get? b = some ob → h1.get? b = some ob := fun b ob hb e => hk1 b ob (by simpa using hb) e
    have im : Im led (noAt led I) := fun a o hi hm => noAt_mem.mpr ⟨hm, fun q => by
      have q' : a = I := q
      subst q'
      rw [J.nd.eq hm mI] at hi
      exact mutI hi⟩
    have J2 : Inv c w env h1 m (noAt led I) σ cv := J1.next ⟨J1.F.ns.at' fun ob e => hk _ _ (Ne.symm zI.2.1) e, fun b ob e => hk b ob (fun q => by rw [q, zI.2.2] at e; cases e) (J1.F.keep b ob e), J1.F.above⟩
      (fun p hp => ⟨hk _ _ (noAt_mem.mp hp).2 (J1.N p hp).1, (J1.N p hp).2⟩) J1.nd J1.rs .rfl
    exact hR h1 tk1 _ σ ys acc J2 (noAt_mem.mpr ⟨mL, Ne.symm hIL⟩) eL (ra.im im) (fun a o hm hn => have z := X a o hm hn; ⟨noAt_mem.mpr ⟨z.1, (hI1 _ hm).1⟩, z.2⟩) go
end
end
section
set_option backward.match.sparseCases false
/-- the cells that a block captures -/
noncomputable def capL (env : Env) : List (Str × NameKind) → List (Str × Addr) → List (Str × Addr)
  | [], acc => acc
  | (x, k) :: r, acc => if k == .free then capL env r ((x, (env.cells.lookup x).getD 0) :: acc) else capL env r acc
theorem closure_is {env : Env} {scope : Scope} (h : ∀ x, (x, NameKind.free) ∈ scope.names → ∃ ca, env.cells.lookup x = some ca) : closureFor scope env = pure (capL env scope.names []) := by
  have key : ∀ (l : List (Str × NameKind)) (acc : List (Str × Addr)), (∀ x, (x, NameKind.free) ∈ l → ∃ ca, env.cells.lookup x = some ca) →
      (forIn l acc fun (x : Str × NameKind) (cs : List (Str × Addr)) => (if x.2 == .free then do let a ← cellOf env x.1; pure (ForInStep.yield ((x.1, a) :: cs)) else pure (ForInStep.yield cs) : Sem (ForInStep (List (Str × Addr))))) = (pure (capL env l acc) : Sem _) := by
    intro l
    induction l with
    | nil => intro acc _; rfl
    | cons p r ih =>
      obtain ⟨x, k⟩ := p
      intro acc h
      have hr : ∀ x, (x, NameKind.free) ∈ r → ∃ ca, env.cells.lookup x = some ca := fun x hx => h x (.tail _ hx)
      rw [List.forIn_cons]
      unfold capL
      cases e : (k == NameKind.free) with
      | true =>
        obtain ⟨ca, hc⟩ := h x (by rw [show k = .free from eq_of_beq e]; exact .head _)
        simp only [if_true]
        unfold cellOf
        rw [hc]
        simp only [pure_bind, Option.getD_some]
        exact ih _ hr
      | false =>
        simp only [Bool.false_eq_true, if_false, pure_bind]
        exact ih _ hr
  have k := key scope.names [] h
  show (forIn scope.names [] _ >>= fun s => pure s) = _
  refine Eq.trans (congrArg (· >>= fun s => pure s) (Eq.trans (congrArg (forIn scope.names []) ?_) k)) ?_
  · funext x cs
    obtain ⟨y, k⟩ := x
    rfl
  · exact bind_pure _
theorem capL_lookup {env : Env} : ∀ {l : List (Str × NameKind)} {acc : List (Str × Addr)} {x : Str} {ca : Addr}, (capL env l acc).lookup x = some ca → acc.lookup x = some ca ∨ ((x, NameKind.free) ∈ l ∧ ca = (env.cells.lookup x).getD 0)
  | [], _, _, _, h => .inl h
  | (y, k) :: r, acc, x, ca, h => by
    unfold capL at h
    cases e : (k == NameKind.free) with
    | true =>
      rw [if_pos e] at h
      have ek : k = .free := eq_of_beq e
      rcases capL_lookup h with q | ⟨q, z⟩
      · unfold List.lookup at q
        cases b : x == y with
        | true =>
          rw [b] at q
          have exy : x = y := eq_of_beq b
          subst exy
          exact .inr ⟨ek ▸ .head _, (Option.some.inj q).symm⟩
        | false => rw [b] at q; exact .inl q
      · exact .inr ⟨.tail _ q, z⟩
    | false =>
      rw [if_neg (by rw [e]; decide)] at h
      rcases capL_lookup h with q | ⟨q, z⟩
      · exact .inl q
      · exact .inr ⟨.tail _ q, z⟩
theorem capL_has {env : Env} : ∀ {l : List (Str × NameKind)} {acc : List (Str × Addr)} {x : Str}, ((x, NameKind.free) ∈ l ∨ acc.lookup x = some ((env.cells.lookup x).getD 0)) → (∀ y z, acc.lookup y = some z → z = (env.cells.lookup y).getD 0) → (capL env l acc).lookup x = some ((env.cells.lookup x).getD 0)
  | [], _, _, h, _ => h.resolve_left (fun q => nomatch q)
  | (y, k) :: r, acc, x, h, ha => by
    unfold capL
    cases e : (k == NameKind.free) with
    | true =>
      rw [if_pos rfl]
      have ek : k = .free := eq_of_beq e
      refine capL_has ?_ ?_
      · rcases h with q | q
        · rcases List.mem_cons.mp q with z | z
          · obtain ⟨rfl, _⟩ := Prod.mk.inj z
            exact .inr (by simp [List.lookup])
          · exact .inl z
        · refine .inr ?_
          show (match x == y with | true => some ((env.cells.lookup y).getD 0) | false => acc.lookup x) = _
          cases b : x == y with
          | true => rw [eq_of_beq b]
          | false => exact q
      · intro y' z hy
        replace hy : (match y' == y with | true => some ((env.cells.lookup y).getD 0) | false => acc.lookup y') = some z := hy
        cases b : y' == y with
        | true =>
          rw [b] at hy
          rw [eq_of_beq b]
          exact (Option.some.inj hy).symm
        | false => rw [b] at hy; exact ha y' z hy
    | false =>
      rw [if_neg (by decide)]
      refine capL_has ?_ ha
      rcases h with q | q
      · rcases List.mem_cons.mp q with z | z
        · obtain ⟨_, rfl⟩ := Prod.mk.inj z
          exact absurd e (by decide)
        · exact .inl z
      · exact .inr q
/-- the names that a block captures, with their data -/
noncomputable def capV : List (Str × NameKind) → Vars → Vars
  | [], _ => []
  | (x, k) :: r, vars => match k with
    | .free => match look vars x with
      | some d => (x, d) :: capV r vars
      | none => capV r vars
    | _ => capV r vars
theorem capV_at : ∀ {l : List (Str × NameKind)} {vars : Vars} {x : Str} {d : Dat}, look (capV l vars) x = some d → (x, NameKind.free) ∈ l ∧ look vars x = some d
  | [], _, _, _, h => by cases h
  | (y, k) :: r, vars, x, d, h => by
    unfold capV at h
    split at h
    · split at h
      · rename_i e
        rw [look_cons] at h
        by_cases q : x = y
        · subst q
          rw [if_pos rfl] at h
          cases h
          exact ⟨.head _, e⟩
        · rw [if_neg q] at h
          exact ⟨.tail _ (capV_at h).1, (capV_at h).2⟩
      · exact ⟨.tail _ (capV_at h).1, (capV_at h).2⟩
    · exact ⟨.tail _ (capV_at h).1, (capV_at h).2⟩
/-- the kind of the names that a block may capture: cells of a def, captured names of a block -/
noncomputable def capKind (fn : Bool) : NameKind := match fn with | true => .cell | false => .free
noncomputable def isCap (fn : Bool) (k : NameKind) : Bool := match k with | .cell => fn | .free => !fn | _ => false
noncomputable def capIn (fn : Bool) (scf : List (Str × NameKind)) (x : Str) : Bool := match look scf x with | some k => isCap fn k | none => false
/-- what a block may name: nothing of its own is a cell; what it captures may be captured -/
noncomputable def blockOk (fn : Bool) (scf : List (Str × NameKind)) : List (Str × NameKind) → Bool
  | [] => true
  | p :: r => match p.2 with
    | .cell => false
    | .free => match capIn fn scf p.1 with | true => blockOk fn scf r | false => false
    | _ => blockOk fn scf r
theorem isCap_is {fn : Bool} {k : NameKind} (h : isCap fn k = true) : k = capKind fn := by
  cases fn <;> cases k <;> first | rfl | cases h
theorem capIn_is {fn : Bool} {scf : List (Str × NameKind)} {x : Str} (h : capIn fn scf x = true) : look scf x = some (capKind fn) := by
  unfold capIn at h
  cases e : look scf x with
  | none => rw [e] at h; cases h
  | some k => rw [e] at h; rw [isCap_is h]
theorem blockOk_mem {fn : Bool} {scf : List (Str × NameKind)} : ∀ {l : List (Str × NameKind)}, blockOk fn scf l = true → (∀ y ∈ l, y.2 ≠ .cell) ∧ ∀ x, (x, NameKind.free) ∈ l → look scf x = some (capKind fn)
  | [], _ => ⟨fun _ h => (nomatch h), fun _ h => (nomatch h)⟩
  | (y, k) :: r, h => by
    have step : k ≠ .cell → (k = .free → look scf y = some (capKind fn)) → blockOk fn scf r = true → (∀ z ∈ (y, k) :: r, z.2 ≠ .cell) ∧ ∀ x, (x, NameKind.free) ∈ (y, k) :: r → look scf x = some (capKind fn) := fun k1 k2 h =>
      have ih := blockOk_mem h
      ⟨fun z hz => (List.mem_cons.mp hz).elim (fun e => e ▸ k1) (ih.1 z), fun x hx => (List.mem_cons.mp hx).elim (fun q => by cases q; exact k2 rfl) (ih.2 x)⟩
    cases k with
    | cell => cases h
    | free =>
      have h' : (match capIn fn scf y with | true => blockOk fn scf r | false => false) = true := h
      cases e : capIn fn scf y with
      | false => rw [e] at h'; cases h'
      | true => rw [e] at h'; exact step (fun q => by cases q) (fun _ => capIn_is e) h'
    | _ => exact step (fun q => by cases q) (fun q => by cases q) h
/-- a local name of a block is so at its first place -/
noncomputable def localsFirst (l : List (Str × NameKind)) : Bool := l.all fun p => match p.2 with | .local => (match l.lookup p.1 with | some .local => true | _ => false) | _ => true
theorem localsFirst_ok {l : List (Str × NameKind)} (h : localsFirst l = true) : ∀ y ∈ l, y.2 = .local → l.lookup y.1 = some .local := fun y hy e => by
  have q := List.all_eq_true.mp h y hy
  rw [e] at q
  dsimp only at q
  split at q
  · rename_i z; exact z
  · cases q
end
section
set_option backward.match.sparseCases false
/-- names told once -/
noncomputable def firstsOk (l : List (Str × NameKind)) : Bool := l.all fun p => match look l p.1 with | some k => k == p.2 | none => false
theorem firstsOk_at {l : List (Str × NameKind)} (h : firstsOk l = true) {x : Str} {k : NameKind} (hm : (x, k) ∈ l) : l.lookup x = some k := by
  have q := List.all_eq_true.mp h _ hm
  dsimp only at q
  rw [look_eq] at q
  split at q
  · rename_i k' e; rw [e, eq_of_beq q]
  · cases q
theorem look_relabel {env : Env} : ∀ {names : List (Str × NameKind)} {x : Str},
    (names.map fun (n, k) => if (k == NameKind.free && env.scope.kind == .function && env.kindOf n == some .cell) then (n, NameKind.cell) else (n, k)).lookup x =
      (names.lookup x).map fun k => if (k == NameKind.free && env.scope.kind == .function && env.kindOf x == some .cell) then NameKind.cell else k
  | [], _ => rfl
  | (n, k) :: r, x => by
    rw [List.map_cons]
    show List.lookup x ((if (k == NameKind.free && env.scope.kind == .function && env.kindOf n == some .cell) = true then (n, NameKind.cell) else (n, k)) :: _) = _
    cases hx : x == n with
    | true =>
      have e : x = n := eq_of_beq hx
      subst e
      split <;> rename_i hc
      · rw [List.lookup_cons, List.lookup_cons, hx]
        show some NameKind.cell = some (if _ then _ else _)
        rw [if_pos hc]
      · rw [List.lookup_cons, List.lookup_cons, hx]
        show some k = some (if _ then _ else _)
        rw [if_neg hc]
    | false =>
      have ih := @look_relabel env r x
      split <;> simp only [List.lookup_cons, hx] <;> exact ih
/-- the frame of a block -/
structure BlkOk (c : Cx) (env : Env) (sc : List (Str × NameKind)) : Prop extends EnvOk env sc where
  hnL : env.locals ≠ c.L
  hfn : env.func = none
  lo : ∀ x, look sc x = some .local → env.kindOf x = some .local
  nc : ∀ x, look sc x ≠ some .cell
  ce : ∀ x, look sc x = some .free → env.kindOf x = some .cell ∧ ∃ ca, env.cells.lookup x = some ca
/-- a frame that a block may capture from -/
structure FrOk (env : Env) (sc : List (Str × NameKind)) (fn : Bool) : Prop extends EnvOk env sc where
  ce : ∀ x, look sc x = some (capKind fn) → env.kindOf x = some .cell ∧ ∃ ca, env.cells.lookup x = some ca
theorem FunOk.fr {c : Cx} {env : Env} {sc : List (Str × NameKind)} (O : FunOk c env sc) : FrOk env sc true := ⟨O.toEnvOk, O.ce⟩
theorem BlkOk.fr {c : Cx} {env : Env} {sc : List (Str × NameKind)} (O : BlkOk c env sc) : FrOk env sc false := ⟨O.toEnvOk, O.ce⟩
theorem ns_eq {o : Obj} {m m' : Str → Option Value} (h : LCg.NsObj o m) (h' : LCg.NsObj o m') (x : Str) : m x = m' x := by
  obtain ⟨es, ep, hd, _, e⟩ := h
  obtain ⟨es', ep', hd', _, e'⟩ := h'
  rw [hd] at hd'
  cases hd'
  rw [← e, ← e']
theorem look_mem {α : Type} {l : List (Str × α)} {x : Str} {a : α} (h : look l x = some a) : (x, a) ∈ l := by
  induction l with
  | nil => cases h
  | cons p r ih =>
    obtain ⟨y, b⟩ := p
    unfold look at h
    cases q : sEq x y with
    | true =>
      simp only [q] at h
      cases h
      rw [sEq_iff.mp q]; exact .head _
    | false => simp only [q] at h; exact .tail _ (ih h)
section
variable {c : Cx} {w : World} {env : Env} {vars : Vars} {σ : Sto} {D : Nat} {sc : List (Str × NameKind)} {fn : Bool}
theorem as_block (O : BlkOk c env sc) {x : Str} {d : Dat} {K : Vars → Sto → Prop} (hx : look sc x = some .local) (h : K ((x, d) :: vars) σ) : AsG c w env vars σ (fun v => storeName env x v) d K := by
  intro s m led v I R
  obtain ⟨oC, m2, hC, ns, eC⟩ := I.lo.resolve_left O.hnL
  refine wpAny_storeName_local (O.lo x hx) (ns.ns (I.N.get hC)) (fun h' hn hs => ?_) (by rw [O.hk]; rfl)
  obtain ⟨oC', hC', ns'⟩ := LCg.ns_obj hn
  have z := I.N _ hC
  have M : Mut oC := by
    obtain ⟨es, ep, hd, _⟩ := ns
    intro hi
    cases hi <;> cases hd
  have im := im_lset (o' := oC') hC I.nd M
  have hcell : ∀ {ca : Addr} {o : Obj} {v : Option Value}, (ca, o) ∈ led → o.data = .cell v → ca ≠ env.locals := fun hm hd q => by
    rw [q] at hm
    obtain ⟨es, ep, hd', _⟩ := ns
    rw [I.nd.eq hm hC, hd'] at hd
    cases hd
  refine (mkA ⟨I.F.change hs z.2.1 z.2.2, news_lset I.N hC hC' fun b ob q e => hs.extBut _ _ q e, lset_nd I.nd, I.rs.cell I.nd hC M eC, fun y e hy => ?_, fun y ca e => ?_, .inr ⟨oC', _, lset_this hC, ns', eC⟩⟩ (fun a ob hm e n => ⟨lset_other hm fun q => n (.inl q.symm), rfl⟩) (.inr rfl) h)
  · rw [look_cons] at hy
    by_cases q : y = x
    · subst q
      rw [if_pos rfl] at hy
      cases hy
      exact ⟨v, .comp (O.lo y hx) (lset_this hC) ns' (if_pos rfl) eC, R.im im⟩
    · rw [if_neg q] at hy
      obtain ⟨u, V, R'⟩ := I.rv y e hy
      refine ⟨u, ?_, R'.im im⟩
      cases V with
      | loc a b z => exact absurd a O.hnL
      | cell a b e f g z => exact .cell a b e (lset_other f (hcell f g)) g z
      | comp a b d e z =>
        rw [I.nd.eq b hC] at d
        exact .comp a (lset_this hC) ns' (by rw [if_neg q, ns_eq ns d]; exact e) eC
  · obtain ⟨ob, u, p1, p2, p3⟩ := I.cl y ca e
    exact ⟨ob, u, lset_other p1 (hcell p1 p2), p2, p3⟩
/-- a frame that names may be stored in -/
inductive SOk (c : Cx) (env : Env) (sc : List (Str × NameKind)) : Prop
  | fn : FunOk c env sc → SOk c env sc
  | blk : BlkOk c env sc → SOk c env sc
theorem SOk.base (O : SOk c env sc) : EnvOk env sc := by
  cases O with
  | fn O => exact O.toEnvOk
  | blk O => exact O.toEnvOk
theorem as_nameS (O : SOk c env sc) {x : Str} {d : Dat} {K : Vars → Sto → Prop} (h : asName sc x d vars σ K) : AsG c w env vars σ (fun v => storeName env x v) d K := by
  cases O with
  | fn O => exact as_name O h
  | blk O =>
    unfold asName at h
    split at h
    · rename_i e; exact as_block O e h
    · rename_i e; exact absurd e (O.nc x)
    · exact h.elim
noncomputable abbrev cEnv (env : Env) (scope : Scope) (C : Addr) : Env := compEnvC scope (capL env scope.names []) C env
theorem cell_kind (O : FrOk env sc fn) {scope : Scope} (hb : blockOk fn sc scope.names = true) {x : Str} (h : look scope.names x = some .free) : (relabel scope env).names.lookup x = some .cell := by
  unfold relabel
  rw [look_relabel, ← look_eq, h, (O.ce x ((blockOk_mem hb).2 x (look_mem h))).1, O.hk]; rfl
theorem plain_kind {scope : Scope} {x : Str} {k : NameKind} (h : look scope.names x = some k) (hk : k ≠ .free) : (relabel scope env).names.lookup x = some k := by
  unfold relabel
  rw [look_relabel, ← look_eq, h]
  cases k <;> first | rfl | exact absurd rfl hk
theorem blk_ok (O : FrOk env sc fn) {scope : Scope} (hb : blockOk fn sc scope.names = true) (hk : scope.kind = .function) {C : Addr} (hC : C ≠ c.L) : BlkOk c (cEnv env scope C) scope.names where
  hk := hk
  hg := O.hg
  hb := O.hb
  gl := fun x e => plain_kind e (fun q => by cases q)
  hnL := hC
  hfn := rfl
  lo := fun x e => plain_kind e (fun q => by cases q)
  nc := fun x e => (blockOk_mem hb).1 _ (look_mem e) rfl
  ce := fun x e => ⟨cell_kind O hb e, _, capL_has (.inl (look_mem e)) (fun _ _ q => by cases q)⟩
theorem Inv.block (O : FrOk env sc fn) {scope : Scope} (hb : blockOk fn sc scope.names = true) (hd : firstsOk scope.names = true) {C : Addr} {h h' : Heap} {m : Str → Option Value} {led led' : Led} {σ' : Sto} {oC : Obj} {m2 : Str → Option Value}
    (I : Inv c w env h m led σ vars) (F : Fr c.h0 c.L h' m) (N : News c.h0 c.L h' led') (nd : ND led') (rs : RS w led' σ') (X : Ext σ led σ' led') (hC : (C, oC) ∈ led') (ns : LCg.NsObj oC m2) (eC : σ' C = none) :
    Inv c w (cEnv env scope C) h' m led' σ' (capV scope.names vars) where
  F := F
  N := N
  nd := nd
  rs := rs
  rv := fun x d e => by
    obtain ⟨h1, h2⟩ := capV_at e
    have hce := O.ce x ((blockOk_mem hb).2 x h1)
    obtain ⟨hkx, ca, hca⟩ := hce
    obtain ⟨v, V, R⟩ := I.rv x d h2
    refine ⟨v, ?_, R.ext X I.rs I.nd⟩
    cases V with
    | loc a b z => rw [hkx] at b; cases b
    | comp a b d e z => rw [hkx] at a; cases a
    | cell p1 p2 p3 p4 p5 p6 =>
      have z := X.at p4 p6
      refine .cell (k := .cell) (ca := _) ?_ (.inl rfl) ?_ z.1 p5 z.2
      · exact cell_kind O hb ((look_eq ..).trans (firstsOk_at hd h1))
      · show (capL env scope.names []).lookup x = _
        rw [capL_has (.inl h1) (fun _ _ q => by cases q), p3]; rfl
  cl := fun x ca e => by
    rcases capL_lookup (show (capL env scope.names []).lookup x = some ca from e) with q | ⟨q, z⟩
    · cases q
    · obtain ⟨_, ca', hca⟩ := O.ce x ((blockOk_mem hb).2 x q)
      rw [hca] at z
      have z' : ca = ca' := z
      subst z'
      obtain ⟨o, v, a, b, g⟩ := I.cl x ca hca
      exact ⟨o, v, (X.at a g).1, b, (X.at a g).2⟩
  lo := .inr ⟨oC, m2, hC, ns, eC⟩
theorem block_V {elt iter target : Expr} {ifs : List Expr} {scope : Scope} {pos : Pos} {s : Shared} {h1 : Heap} {tk1 : Nat} {m : Str → Option Value} {led1 : Led} {σ1 : Sto} {re : Sto → Sto} {oI : Obj} {fp : List Addr} {n : Nat} {P : Nat → Value → Prop} {St : Nat → Heap → Prop} {ds : List Dat} {nm : String}
    {K : List Dat → Sto → Prop} {E : Value → Shared → Prop} {RR : Value → Addr → Result → Shared → Prop}
    (O : FrOk env sc fn) (hb : blockOk fn sc scope.names = true) (hd : firstsOk scope.names = true) (hkind : scope.kind = .function)
    (I1 : Inv c w env h1 m led1 σ vars) (W : Walks c.prog w c.A h1.objs.size fp [h1.objs.size] n P St) (hn : n = ds.length) (hz : n ≤ 100000)
    (hP : ∀ i v led', P i v → Im led1 led' → ∃ d, ds[i]? = some d ∧ RV w led' v d)
    (hSt : ∀ i h, St i h → ∃ o vs, h.get? h1.objs.size = some o ∧ o.cls = .type nm ∧ o.data = .fields vs)
    (hnm : ["enumerate", "zip", "dict_itemiterator", "dict_reverseitemiterator", "odict_iterator", "itertools.zip_longest", "itertools.pairwise"].contains nm = false) (hnm2 : nm ≠ "range")
    (hfp : ∀ b ∈ fp, b = h1.objs.size ∨ (∃ o, (b, o) ∈ led1 ∧ Fz σ1 b) ∨ ∃ o, c.h0.get? b = some o)
    (h0 : St 0 (h1.push oI)) (hoF : oI.isFreed = false)
    (r1 : ∀ b, Fz σ b → σ1 b = σ b) (rs1 : RS w led1 σ1)
    (r2 : ∀ σ' led, Ext σ1 led1 σ' led → Im led1 led → RS w led σ' → RS w led (re σ'))
    (r3 : ∀ σ' b, Fz σ b → σ' b = σ b → re σ' b = σ b)
    (hR : ∀ D C h tk led σ' oC m2 acc, Inv c w env h m led (σ'.set D (.list acc)) vars → Ext σ led1 (σ'.set D (.list acc)) led → σ' D = none → (C, oC) ∈ led → LCg.NsObj oC m2 → (σ'.set D (.list acc)) C = none → (∀ x, env.cells.lookup x ≠ some C) → C ≠ c.L → (∀ p ∈ led1, p.1 ≠ C) → K acc σ' →
      RR (.ref D) C (.ok .next) { s with heap := h, toks := tk })
    (go : ∀ C, BlkOk c (cEnv env scope C) scope.names → CompR c w (cEnv env scope C) (capV scope.names vars) target ifs elt (fun acc σ' => K acc (re σ')) ds [] σ1) :
    wpAny (model c.prog w) c.A (newList []) (fun acc s₃ => wpAny (model c.prog w) c.A (newFunctionEnv scope env.globals (capL env scope.names []) [] env.qual none .none (some env)) (fun cenv s₄ =>
      codeAny (model c.prog w) c.A (.compStart (.ListComp elt [⟨target, iter, ifs, 0⟩] scope pos) 0 (.ref h1.objs.size) acc { cenv with scope := relabel scope env }) (RR acc cenv.locals) s₄) E s₃) E { s with heap := h1.push oI, toks := tk1 } := by
  refine wpAny_newObj_type (wpAny_newFunctionEnv (blockOk_mem hb).1 (by intro y hy; simp at hy) (fun h₁ hns₁ hsb₁ => ?_) hkind)
  dsimp only at hns₁ hsb₁ ⊢
  generalize hH2 : (h1.push oI).push { cls := .type "list", dict := none, data := .seq ([] : List Value).toArray } = H2 at hns₁ hsb₁ ⊢
  have hD : (h1.push oI).objs.size = h1.objs.size + 1 := Heap.size_push ..
  have hC : H2.objs.size = h1.objs.size + 2 := by rw [← hH2, Heap.size_push, hD]
  rw [hD]
  have below : ∀ b, b < h1.objs.size → b ≠ H2.objs.size ∧ b ≠ h1.objs.size + 1 ∧ b ≠ h1.objs.size := fun b hb => ⟨by omega, by omega, by omega⟩
  have hle : h1.objs.size ≤ H2.objs.size := by omega
  have hDC : h1.objs.size + 1 ≠ H2.objs.size := by omega
  have hIC : h1.objs.size ≠ H2.objs.size := by omega
  have old1 : ∀ b o, (h1.push oI).get? b = some o → b ≠ H2.objs.size → h₁.get? b = some o := fun b o e q => hsb₁.extBut b o q (Heap.get?_push_of_some _ (hH2 ▸ Heap.get?_push_of_some _ e))
  have old : ∀ b o, h1.get? b = some o → h₁.get? b = some o := fun b o e => old1 b o (Heap.get?_push_of_some _ e) (below b (Heap.lt_size e)).1
  have hacc : h₁.get? (h1.objs.size + 1) = some (lstO [] 0) := hsb₁.extBut _ _ hDC (Heap.get?_push_of_some _ (hH2 ▸ (hD ▸ Heap.get?_push_size (h1.push oI) rfl)))
  have hIo : h₁.get? h1.objs.size = some oI := old1 _ _ (Heap.get?_push_size _ hoF) hIC
  obtain ⟨oC, hCo, ns⟩ := LCg.ns_obj hns₁
  have fresh : ∀ a, h1.objs.size ≤ a → h1.get? a = none := fun a ha => by
    cases e : h1.get? a with
    | none => rfl
    | some o' => exact absurd (Heap.lt_size e) (Nat.not_lt.mpr ha)
  have fresh₀ : ∀ a, h1.objs.size ≤ a → c.h0.get? a = none := fun a ha => by
    cases e : c.h0.get? a with
    | none => rfl
    | some o' => have := I1.F.keep a o' e; rw [fresh a ha] at this; cases this
  have hLlt : c.L < h1.objs.size := I1.F.ns.lt
  have low := I1.low
  have offL : ∀ a, h1.objs.size ≤ a → ∀ p ∈ led1, p.1 ≠ a := fun a ha p hp q => absurd (Nat.lt_of_lt_of_le (low p hp) ha) (by rw [q]; exact Nat.lt_irrefl a)
  have sfree : ∀ a, h1.objs.size ≤ a → σ a = none := fun a ha => I1.rs.fresh fun p hp => Nat.lt_of_lt_of_le (low p hp) ha
  have nr1 : ∀ a, σ a = none → σ1 a = none := fun a e => (r1 a (.inl e)).trans e
  have hCL : H2.objs.size ≠ c.L := Ne.symm (below _ hLlt).1
  have F₁ : Fr c.h0 c.L h₁ m := I1.F.keeps old
  have N₁ : News c.h0 c.L h₁ ((H2.objs.size, oC) :: (h1.objs.size + 1, lstO [] 0) :: (h1.objs.size, oI) :: led1) := fun p hp => by
    rcases List.mem_cons.mp hp with rfl | hp
    · exact ⟨hCo, hCL, fresh₀ _ (by omega)⟩
    · rcases List.mem_cons.mp hp with rfl | hp
      · exact ⟨hacc, Ne.symm (below _ hLlt).2.1, fresh₀ _ (Nat.le_succ _)⟩
      · rcases List.mem_cons.mp hp with rfl | hp
        · exact ⟨hIo, Ne.symm (below _ hLlt).2.2, fresh₀ _ (Nat.le_refl _)⟩
        · exact ⟨old _ _ (I1.N p hp).1, (I1.N p hp).2⟩
  have ndI : ND ((h1.objs.size, oI) :: led1) := I1.nd.cons low
  have ndD : ND ((h1.objs.size + 1, lstO [] 0) :: (h1.objs.size, oI) :: led1) := ndI.cons fun p hp => by
    rcases List.mem_cons.mp hp with rfl | hp
    · exact Nat.lt_succ_self _
    · exact Nat.lt_succ_of_lt (low p hp)
  have nd₁ : ND ((H2.objs.size, oC) :: (h1.objs.size + 1, lstO [] 0) :: (h1.objs.size, oI) :: led1) := ndD.cons fun p hp => by
    rw [hC]
    rcases List.mem_cons.mp hp with rfl | hp
    · exact Nat.lt_succ_self _
    · rcases List.mem_cons.mp hp with rfl | hp
      · exact Nat.lt_succ_of_lt (Nat.lt_succ_self _)
      · exact Nat.lt_succ_of_lt (Nat.lt_succ_of_lt (low p hp))
  have S₁ : Sub led1 ((H2.objs.size, oC) :: (h1.objs.size + 1, lstO [] 0) :: (h1.objs.size, oI) :: led1) := fun p hp => .tail _ (.tail _ (.tail _ hp))
  have B := blk_ok (scope := scope) O hb hkind hCL
  have J0 : Inv c w (cEnv env scope H2.objs.size) h₁ m _ σ1 (capV scope.names vars) := Inv.block O hb hd I1 F₁ N₁ nd₁ (rs1.sub S₁) (fun a o hm e => ⟨S₁ _ hm, r1 a e⟩) (.head _) ns (nr1 _ (sfree _ hle))
  have hst₁ : St 0 h₁ := W.frame _ _ _ h0 fun b hb o e => old1 b o e fun q => by
    have z : b < h1.objs.size + 1 := hD ▸ Heap.lt_size e
    have z2 : H2.objs.size < h1.objs.size + 1 := q ▸ z
    rw [hC] at z2
    exact absurd z2 (by omega)
  have hcel : ∀ x ca, (capL env scope.names []).lookup x = some ca → ca < h1.objs.size := fun x ca e => by
    rcases capL_lookup e with q | ⟨q, z⟩
    · cases q
    · obtain ⟨_, ca', hca⟩ := O.ce x ((blockOk_mem hb).2 x q)
      rw [hca] at z
      have z' : ca = ca' := z
      subst z'
      obtain ⟨o, v, a, _⟩ := I1.cl x ca hca
      exact low _ a
  have fin : codeAny (model c.prog w) c.A (.compLoop (.ListComp elt [⟨target, iter, ifs, 0⟩] scope pos) 0 (.ref h1.objs.size) (.ref (h1.objs.size + 1)) (cEnv env scope H2.objs.size)) (RR (.ref (h1.objs.size + 1)) H2.objs.size)
      { s with heap := h₁, toks := tk1 + ([] : List (Str × Value)).length } := by
    refine comp_run (I := h1.objs.size) (L1 := h1.objs.size + 1) (led1 := led1) (σ1 := σ1) (m := m) (K := fun acc σ' => K acc (re σ')) (nm := nm) rfl B.hnL (fun x d e => ?_) W hn hz hP hSt hnm hnm2 hfp (fun p hp => ⟨offL _ (Nat.le_refl _) p hp, offL _ (Nat.le_succ _) p hp, offL _ hle p hp⟩)
      hIC (Nat.ne_of_lt (Nat.lt_succ_self _)) hDC (fun x ca e => ⟨(below _ (hcel x ca e)).2.2, (below _ (hcel x ca e)).2.1⟩) hst₁ J0 ns (nr1 _ (sfree _ hle)) (nr1 _ (sfree _ (Nat.le_succ _))) (nr1 _ (sfree _ (Nat.le_refl _))) (fun h tk led σ' ys acc J hL nD Rs X k => ?_) (go _ B)
    · have h1' := (capV_at e).1
      rw [show (cEnv env scope H2.objs.size).kindOf x = some .cell from cell_kind O hb ((look_eq ..).trans (firstsOk_at hd h1'))]
      exact fun q => by cases q
    · have im : Im led1 led := X.im rs1 I1.nd
      obtain ⟨oC', m2', hCm, nsC, nC⟩ := J.lo.resolve_left B.hnL
      have n0 : ∀ a, h1.objs.size ≤ a → σ' a = none → re σ' a = none := fun a ha e => (r3 σ' a (.inl (sfree a ha)) (e.trans (sfree a ha).symm)).trans (sfree a ha)
      have XF : Ext σ led1 ((re σ').set (h1.objs.size + 1) (.list acc)) led := fun a o hm e =>
        have z := X a o hm (e.imp (r1 a e).trans (r1 a e).trans)
        ⟨z.1, (Sto.set_ne (offL _ (Nat.le_succ _) _ hm)).trans (r3 _ _ e (z.2.trans (r1 a e)))⟩
      refine hR _ _ h tk led (re σ') oC' m2' acc (I1.next J.F J.N J.nd ((r2 _ _ X im J.rs).put (mo := .list acc) hL ⟨ys, _, rfl, Rs⟩) XF) XF (n0 _ (Nat.le_succ _) nD) hCm nsC ((Sto.set_ne (Ne.symm hDC)).trans (n0 _ hle nC)) (fun x e => ?_) hCL (offL _ hle) k
      obtain ⟨ob, v, a, _⟩ := I1.cl x _ e
      exact absurd (Nat.lt_of_lt_of_le (low _ a) hle) (Nat.lt_irrefl H2.objs.size)
  exact codeAny_compStart_list fin (W.self 0 _ _ _ hst₁ fin)
end
end
section
set_option backward.match.sparseCases false
section
variable {c : Cx} {w : World} {env : Env} {vars : Vars} {σ : Sto} {D : Nat} {sc : List (Str × NameKind)} {fn : Bool}
/-- what a comprehension goes over -/
noncomputable def SrcC (xv : Dat) (σ : Sto) (Q : List Dat → (Sto → Sto) → Sto → Prop) : Prop :=
  match xv with
  | .tup ds => Nat.ble ds.length 1000 = true ∧ Q ds (fun σ => σ) σ
  | .rng a b => (-1152921504606846976 ≤ a ∧ a ≤ 1152921504606846976 ∧ -1152921504606846976 ≤ b ∧ b ≤ 1152921504606846976 ∧ b - a ≤ 100000) ∧ Q (rngDs a (b - a).toNat) (fun σ => σ) σ
  | .val (.ref a) => ∃ ds, σ a = some (.list ds) ∧ Nat.ble ds.length 1000 = true ∧ Q ds (fun σ => σ.set a (.list ds)) (σ.del a)
  | _ => False
theorem rngDs_len : ∀ {n : Nat} {a : Int}, (rngDs a n).length = n
  | 0, _ => rfl
  | n + 1, a => by
    show (rngDs (a + 1) n).length + 1 = n + 1
    rw [rngDs_len]
theorem rngDs_at : ∀ {n i : Nat} {a : Int}, i < n → (rngDs a n)[i]? = some (.int (a + (i : Int)))
  | 0, _, _, h => absurd h (Nat.not_lt_zero _)
  | n + 1, 0, a, _ => by unfold rngDs; rw [List.getElem?_cons_zero, show a + ((0 : Nat) : Int) = a from Int.add_zero a]
  | n + 1, i + 1, a, h => by
    show (Dat.int a :: rngDs (a + 1) n)[i + 1]? = _
    rw [List.getElem?_cons_succ, rngDs_at (Nat.lt_of_succ_lt_succ h), show a + 1 + (i : Int) = a + ((i + 1 : Nat) : Int) by omega]
theorem RVs.at2 {led : Led} {ds : List Dat} {vs : List Value} {j : Nat} {v : Value} (r : RVs w led vs ds) (e : vs[j]? = some v) : ∃ d, ds[j]? = some d ∧ RV w led v d := by
  induction ds generalizing vs j with
  | nil =>
    obtain rfl := r.inv0
    rw [List.getElem?_nil] at e
    cases e
  | cons d ds ih =>
    obtain ⟨u, us, rfl, a, b⟩ := r.inv
    cases j with
    | zero =>
      rw [List.getElem?_cons_zero] at e ⊢
      cases e
      exact ⟨_, rfl, a⟩
    | succ j =>
      rw [List.getElem?_cons_succ] at e ⊢
      exact ih b e
noncomputable def EndC (c : Cx) (w : World) (env : Env) (vars : Vars) (m : Str → Option Value) (led1 : Led) (σ : Sto) (s : Shared) (K : List Dat → Sto → Prop) (RR : Value → Addr → Result → Shared → Prop) : Prop :=
  ∀ D C h tk led σ' oC m2 acc, Inv c w env h m led (σ'.set D (.list acc)) vars → Ext σ led1 (σ'.set D (.list acc)) led → σ' D = none → (C, oC) ∈ led → LCg.NsObj oC m2 → (σ'.set D (.list acc)) C = none → (∀ x, env.cells.lookup x ≠ some C) → C ≠ c.L → (∀ p ∈ led1, p.1 ≠ C) → K acc σ' →
      RR (.ref D) C (.ok .next) { s with heap := h, toks := tk }
theorem iter_obj {h : Heap} {I : Addr} {nm : String} {vs : Array Value} (st : ∃ o, h.get? I = some o ∧ o.cls = .type nm ∧ o.data = .fields vs) : ∃ o vs, h.get? I = some o ∧ o.cls = .type nm ∧ o.data = .fields vs :=
  let ⟨o, a⟩ := st
  ⟨o, vs, a⟩
theorem comp_src {elt iter target : Expr} {ifs : List Expr} {scope : Scope} {pos : Pos} {s : Shared} {h1 : Heap} {tk1 : Nat} {m : Str → Option Value} {led1 : Led} {v : Value} {xv : Dat} {K : List Dat → Sto → Prop} {E : Value → Shared → Prop} {RR : Value → Addr → Result → Shared → Prop} (K1 : c.Ok w D)
    (O : FrOk env sc fn) (hb : blockOk fn sc scope.names = true) (hd : firstsOk scope.names = true) (hkind : scope.kind = .function)
    (I1 : Inv c w env h1 m led1 σ vars) (R1 : RV w led1 v xv)
    (q : SrcC xv σ fun ds re σ2 => ∀ C, BlkOk c (cEnv env scope C) scope.names → CompR c w (cEnv env scope C) (capV scope.names vars) target ifs elt (fun acc σ' => K acc (re σ')) ds [] σ2)
    (hR : EndC c w env vars m led1 σ s K RR) :
    wpAny (model c.prog w) c.A (pyIter v) (fun it s₂ => wpAny (model c.prog w) c.A (newList []) (fun acc s₃ => wpAny (model c.prog w) c.A (newFunctionEnv scope env.globals (capL env scope.names []) [] env.qual none .none (some env)) (fun cenv s₄ =>
      codeAny (model c.prog w) c.A (.compStart (.ListComp elt [⟨target, iter, ifs, 0⟩] scope pos) 0 it acc { cenv with scope := relabel scope env }) (RR acc cenv.locals) s₄) E s₃) E s₂) E { s with heap := h1, toks := tk1 } := by
  cases xv with
  | tup ds =>
    obtain ⟨hz, q⟩ := (show Nat.ble ds.length 1000 = true ∧ _ from q)
    cases R1 with
    | tup T r =>
      rename_i ax vs
      obtain ⟨o, ho, hcl, k, hdt⟩ := T.isTup K1 I1.F I1.N
      have ht : h1.IsTuple ax vs.toArray := ⟨o, ho, hcl, k, hdt⟩
      refine wpAny_pyIter_tuple (s := { s with heap := h1, toks := tk1 }) ht ?_
      refine block_V (s := s) (re := fun σ => σ) (nm := "tuple_iterator") O hb hd hkind I1 (Walks.tuple K1.hh h1.objs.size ax (Nat.ne_of_lt (Heap.lt_size ho)) vs.toArray) (by rw [List.size_toArray, r.len]) (by rw [List.size_toArray, r.len]; have := Nat.ble_eq.mp hz; omega)
        (fun i v led' hv im => (r.im im).at2 (by simpa using hv)) (fun i h st => iter_obj st.1) (by decide) (by decide) (fun b hb => ?_) ⟨⟨_, Heap.get?_push_size _ rfl, rfl, rfl⟩, ?_⟩ rfl (fun _ _ => rfl) I1.rs (fun _ _ _ _ r => r) (fun _ _ _ e => e) hR q
      · rcases List.mem_cons.mp hb with rfl | hb
        · exact .inl rfl
        · rw [List.mem_singleton.mp hb]
          obtain ⟨k, T | T⟩ := T
          · exact .inr (.inl ⟨_, T, .inl (I1.rs.imm I1.nd (.tup ..) T)⟩)
          · obtain ⟨o, h1, _⟩ := tupK K1.X T
            exact .inr (.inr ⟨o, h1⟩)
      · exact ⟨o, Heap.get?_push_of_some _ ho, hcl, k, hdt⟩
  | rng a b =>
    obtain ⟨⟨z1, z2, z3, z4, z5⟩, q⟩ := (show (-1152921504606846976 ≤ a ∧ a ≤ 1152921504606846976 ∧ -1152921504606846976 ≤ b ∧ b ≤ 1152921504606846976 ∧ b - a ≤ 100000) ∧ _ from q)
    cases R1 with
    | rng hm =>
      rename_i r t u v
      have hr : IsRange h1 r a b 1 t u v := (I1.N _ hm).1
      refine wpAny_pyIter_range (s := { s with heap := h1, toks := tk1 }) hr (small_r ⟨z1, z2, z3, z4⟩) ?_
      refine block_V (s := s) (re := fun σ => σ) (nm := "range_iterator") O hb hd hkind I1 (Walks.range K1.hh _ a 1 (b - a).toNat).bound rngDs_len.symm (by omega) (fun i v led' hp im => ?_) (fun i h st => ⟨_, _, st, rfl, rfl⟩) (by decide) (by decide) (fun b hb => .inl (by simpa using hb)) (by
        show IsRangeIter _ _ _ _ _
        rw [rangeSize_nat]
        simpa using Heap.get?_push_size _ rfl) rfl (fun _ _ => rfl) I1.rs (fun _ _ _ _ r => r) (fun _ _ _ e => e) hR q
      obtain ⟨hi, t, rfl⟩ := hp
      exact ⟨_, rngDs_at hi, by rw [Int.mul_one]; exact .int _ t⟩
  | val v =>
    cases v with
    | ref a =>
      cases R1
      obtain ⟨ds, ea, hz, q⟩ := (show ∃ ds, σ a = some (.list ds) ∧ Nat.ble ds.length 1000 = true ∧ _ from q)
      obtain ⟨o, ho, vs, k, rfl, r⟩ := I1.rs _ _ ea
      have hl : h1.IsList a vs.toArray := ⟨_, (I1.N _ ho).1, rfl, k, rfl⟩
      refine wpAny_pyIter_list (s := { s with heap := h1, toks := tk1 }) hl ?_
      refine block_V (s := s) (re := fun σ => σ.set a (.list ds)) (nm := "list_iterator") O hb hd hkind I1 (Walks.list K1.hh h1.objs.size a (Nat.ne_of_lt (Heap.lt_size (I1.N _ ho).1)) vs.toArray) (by rw [List.size_toArray, r.len]) (by rw [List.size_toArray, r.len]; have := Nat.ble_eq.mp hz; omega)
        (fun i v led' hv im => (r.im im).at2 (by simpa using hv)) (fun i h st => iter_obj st.1) (by decide) (by decide) (fun b hb => ?_) ⟨⟨_, Heap.get?_push_size _ rfl, rfl, rfl⟩, hl.push _⟩ rfl (fun _ e => Sto.del_ne (e.ne ea nh_list)) (I1.del ea).rs (fun σ' led X im R => ?_) (fun σ' b e1 e2 => (Sto.set_ne (e1.ne ea nh_list)).trans e2) hR q
      · rcases List.mem_cons.mp hb with rfl | hb
        · exact .inl rfl
        · rw [List.mem_singleton.mp hb]
          exact .inr (.inl ⟨_, ho, .inr Sto.del_same⟩)
      · exact R.put (mo := .list ds) (X a _ ho (.inr Sto.del_same)).1 ⟨vs, k, rfl, r.im im⟩
    | _ => exact (show False from q).elim
  | _ => exact (show False from q).elim
theorem AsG.mono {t : Value → Sem Unit} {d : Dat} {K K' : Vars → Sto → Prop} (h : AsG c w env vars σ t d K) (q : ∀ v σ, K v σ → K' v σ) : AsG c w env vars σ t d K' := fun s m led v I R =>
  bndA (h s m led v I R) fun _ _ _ _ _ _ _ I X z r => mkA I X z (q _ _ r)
theorem TestR.mono {ifs : List Expr} {v : Vars} {K K' : Bool → Sto → Prop} (h : TestR c w env ifs v σ K) (q : ∀ b σ, K b σ → K' b σ) : TestR c w env ifs v σ K' := by
  unfold TestR at h ⊢
  split at h
  · exact q _ _ h
  · exact h.mono q
  · exact h
theorem CompR.mono {cv : Vars} {target : Expr} {ifs : List Expr} {elt : Expr} {K K' : List Dat → Sto → Prop} (q : ∀ acc σ, K acc σ → K' acc σ) : ∀ {ds acc : List Dat} {σ : Sto}, CompR c w env cv target ifs elt K ds acc σ → CompR c w env cv target ifs elt K' ds acc σ
  | [], acc, σ, h => q _ _ h
  | d :: ds, acc, σ, h => by
    unfold CompR at h ⊢
    refine h.mono fun v1 σ1 h1 => h1.mono fun b σ2 h2 => ?_
    cases b with
    | true => exact EvG.mono h2 fun r σ3 h3 => CompR.mono q h3
    | false => exact CompR.mono q h2
/-- the names of a block let go -/
theorem Inv.letC {h h' : Heap} {m : Str → Option Value} {led : Led} {C : Addr} {oC : Obj} {m2 : Str → Option Value} (J : Inv c w env h m led σ vars) (hl : env.locals ≠ C) (hC : (C, oC) ∈ led) (ns : LCg.NsObj oC m2) (eC : σ C = none) (hc : ∀ x, env.cells.lookup x ≠ some C) (hCL : C ≠ c.L)
    (hs : Heap.SameBut C h h') : Inv c w env h' m (Mine.noAt led C) σ vars := by
  have J1 := J.noAt hC eC (ns_mut ns) hc hl
  exact J1.next (J1.F.change hs hCL (J.N _ hC).2.2) (fun p hp => ⟨hs.extBut _ _ (noAt_mem.mp hp).2 (J1.N p hp).1, (J1.N p hp).2⟩) J1.nd J1.rs .rfl
theorem ev_comp_at {s : Shared} {m : Str → Option Value} {led : Led} {elt iter target : Expr} {ifs : List Expr} {scope : Scope} {pos : Pos} {Q : Dat → Sto → Prop} (K1 : c.Ok w D)
    (O : FrOk env sc fn) (hb : blockOk fn sc scope.names = true) (hd : firstsOk scope.names = true) (hkind : scope.kind = .function) (hi : isSet iter = false)
    (h : wpAny (model c.prog w) c.A (eval iter env) (PostG c w env vars (RV w) m led σ s fun xv σ1 => SrcC xv σ1 fun ds re σ2 => ∀ C, BlkOk c (cEnv env scope C) scope.names → CompR c w (cEnv env scope C) (capV scope.names vars) target ifs elt (fun acc σ' => ∀ D, re σ' D = none → Q (.val (.ref D)) ((re σ').set D (.list acc))) ds [] σ2) Never s) :
    wpAny (model c.prog w) c.A (eval (.ListComp elt [⟨target, iter, ifs, 0⟩] scope pos) env) (PostG c w env vars (RV w) m led σ s Q) Never s := by
  rw [eval_ListComp]
  refine wpAny_comprehension_free (use := none) rfl (folded_no hi) (closure_is fun x hx => (O.ce x ((blockOk_mem hb).2 x hx)).2) hkind (fun x hx e => firstsOk_at hd (show (x.1, NameKind.local) ∈ _ from e ▸ hx)) (bndG h ?_)
  intro v xv σ1 led1 h1 tk1 I1 X1 R1 q1
  refine comp_src (K := fun acc σ' => ∀ D, σ' D = none → Q (.val (.ref D)) (σ'.set D (.list acc))) K1 O hb hd hkind I1 R1 q1 fun D C h tk led2 σ' oC m2 acc J X eD hC ns eC hcc hCL hof k => ?_
  have hl : env.locals ≠ C := I1.lo.elim (fun e => e ▸ Ne.symm hCL) fun ⟨o, m2, a, _⟩ => hof _ a
  refine ⟨m2, ns.ns (J.N _ hC).1, fun h' hs => mkG (J.letC hl hC ns eC hcc hCL hs) (X1.trans fun a o hm e => ?_) (.val _) (k D eD)⟩
  have z := X a o hm e
  exact ⟨noAt_mem.mpr ⟨z.1, hof _ hm⟩, z.2⟩
theorem ev_comp {elt iter target : Expr} {ifs : List Expr} {scope : Scope} {pos : Pos} {Q : Dat → Sto → Prop} (K1 : c.Ok w D)
    (O : FrOk env sc fn) (hb : blockOk fn sc scope.names = true) (hd : firstsOk scope.names = true) (hkind : scope.kind = .function) (hi : isSet iter = false)
    (h : Ev c w env vars σ (eval iter env) fun xv σ1 => SrcC xv σ1 fun ds re σ2 => ∀ C, BlkOk c (cEnv env scope C) scope.names → CompR c w (cEnv env scope C) (capV scope.names vars) target ifs elt (fun acc σ' => ∀ D, re σ' D = none → Q (.val (.ref D)) ((re σ').set D (.list acc))) ds [] σ2) :
    Ev c w env vars σ (eval (.ListComp elt [⟨target, iter, ifs, 0⟩] scope pos) env) Q := fun s m led I => ev_comp_at K1 O hb hd hkind hi (h s m led I)
/-- is it stored before the block's names are let go? -/
noncomputable def swapB (sc : List (Str × NameKind)) (y : Str) (py : Pos) (line : Nat) (names : List (Str × NameKind)) : Bool :=
  (match look sc y with | some .local => true | _ => false) && Nat.beq py.line line && !(names.any fun p => sEq p.1 y && (p.2 == .local || p.2 == .cell))
theorem swapB_is (O : EnvOk env sc) (hn : env.scope.names = sc) {elt : Expr} {gs : List Comprehension} {scope : Scope} {pos : Pos} {y : Str} {py : Pos} {line : Nat} :
    swapsWith (.ListComp elt gs scope pos) (some (.Name y py)) line env = pure (swapB sc y py pos.line scope.names) := by
  have e1 : env.blockKind = .function := by unfold Env.blockKind; rw [O.hk]; rfl
  have e0 : env.kindOf y = look sc y := by rw [look_eq, ← hn]; rfl
  show (pure (env.blockKind == .function && env.kindOf y == some .local && py.line == pos.line && !(scope.names.any fun (n, k) => n == y && (k == .local || k == .cell))) : Sem Bool) = _
  rw [e1, e0]
  unfold swapB
  have e2 : (look sc y == some NameKind.local) = (match look sc y with | some .local => true | _ => false) := by
    cases look sc y with
    | none => rfl
    | some k => cases k <;> rfl
  have e3 : (fun (p : Str × NameKind) => match p with | (n, k) => n == y && (k == NameKind.local || k == NameKind.cell)) = fun p => sEq p.1 y && (p.2 == .local || p.2 == .cell) := by
    funext p
    obtain ⟨n, k⟩ := p
    dsimp only
    rw [sEq_beq]
  rw [e2, e3]
  have e4 : (ScopeKind.function == ScopeKind.function) = true := rfl
  have e5 : (py.line == pos.line) = Nat.beq py.line pos.line := by
    cases q : Nat.beq py.line pos.line with
    | true => rw [Nat.eq_of_beq_eq_true q]; exact beq_self_eq_true _
    | false =>
      cases q2 : py.line == pos.line with
      | false => rfl
      | true => rw [eq_of_beq q2, Nat.beq_refl pos.line] at q; cases q
  rw [e4, Bool.true_and, e5]
theorem SrcC_mono {xv : Dat} {Q Q' : List Dat → (Sto → Sto) → Sto → Prop} (h : SrcC xv σ Q) (q : ∀ ds re σ, Q ds re σ → Q' ds re σ) : SrcC xv σ Q' := by
  cases xv with
  | tup ds => exact ⟨h.1, q _ _ _ h.2⟩
  | rng a b => exact ⟨h.1, q _ _ _ h.2⟩
  | val v =>
    cases v with
    | ref a => exact let ⟨ds, e, z, h⟩ := h; ⟨ds, e, z, q _ _ _ h⟩
    | _ => exact h
  | _ => exact h
theorem st_assignComp_at {s : Shared} {m : Str → Option Value} {led : Led} {elt iter target : Expr} {ifs : List Expr} {scope : Scope} {pos spos py : Pos} {y : Str} {K : Fl → Vars → Sto → Prop} (K1 : c.Ok w D)
    (O : FunOk c env sc) (hb : blockOk true sc scope.names = true) (hd : firstsOk scope.names = true) (hkind : scope.kind = .function) (hi : isSet iter = false) (hn : env.scope.names = sc)
    (h : wpAny (model c.prog w) c.A (eval iter env) (PostG c w env vars (RV w) m led σ s fun xv σ1 => SrcC xv σ1 fun ds re σ2 => ∀ C, BlkOk c (cEnv env scope C) scope.names → CompR c w (cEnv env scope C) (capV scope.names vars) target ifs elt
      (fun acc σ' => ∀ D, re σ' D = none → asName sc y (.val (.ref D)) vars ((re σ').set D (.list acc)) fun v σ'' => K .next v σ'') ds [] σ2) Never s) :
    wpAny (model c.prog w) c.A (exec (.Assign [.Name y py] (.ListComp elt [⟨target, iter, ifs, 0⟩] scope pos) spos) env) (PostS c w env led σ s K) Never s := by
  have sw := swapB_is (env := env) O.toEnvOk hn (elt := elt) (gs := [⟨target, iter, ifs, 0⟩]) (scope := scope) (pos := pos) (y := y) (py := py) (line := spos.line)
  cases hb2 : swapB sc y py pos.line scope.names with
  | false =>
    rw [hb2] at sw
    refine st_assignT_at (t := .Name y py) rfl sw rfl (ev_comp_at (sc := sc) K1 O.fr hb hd hkind hi (bndG h fun _ _ _ _ _ _ I X R q => mkG I X R ?_))
    have step : ∀ {ds : List Dat} {re : Sto → Sto} {σ2 : Sto}, (∀ C, BlkOk c (cEnv env scope C) scope.names → CompR c w (cEnv env scope C) (capV scope.names vars) target ifs elt
        (fun acc σ' => ∀ D, re σ' D = none → asName sc y (.val (.ref D)) vars ((re σ').set D (.list acc)) fun v σ'' => K .next v σ'') ds [] σ2) → ∀ C, BlkOk c (cEnv env scope C) scope.names → CompR c w (cEnv env scope C) (capV scope.names vars) target ifs elt
        (fun acc σ' => ∀ D, re σ' D = none → AsG c w env vars ((re σ').set D (.list acc)) (assign (.Name y py) env) (.val (.ref D)) fun v σ2 => K .next v σ2) ds [] σ2 := fun {ds re σ2} q C B => by
      exact CompR.mono (fun acc σ' z D e => as_nameT (as_name O (z D e))) (q C B)
    exact SrcC_mono q fun ds re σ2 q => step q
  | true =>
    rw [hb2] at sw
    rw [exec_Assign_Name_used _ _ _ _ sw]
    refine wpAny_bind (wpAny_standAt (wpAny_bind ?_))
    show wpAny _ _ (do let _ ← comprehension (.ListComp elt [⟨target, iter, ifs, 0⟩] scope pos) scope env _ (newList []) false (eval iter env) (some (assign (.Name y py) env))) _ _ s
    refine wpAny_bind (wpAny_mono (wpAny_comprehension_free (use := some (assign (.Name y py) env)) (Q := fun _ s' => PostS c w env led σ s K .next s') rfl (folded_no hi) (closure_is fun x hx => (O.ce x ((blockOk_mem hb).2 x hx)).2) hkind (fun x hx e => firstsOk_at hd (show (x.1, NameKind.local) ∈ _ from e ▸ hx))
      (bndG h ?_)) (fun _ s' hq => wpAny_pure (wpAny_pure hq)) fun _ _ e => e)
    intro v xv σ1 led1 h1 tk1 I1 X1 R1 q1
    refine comp_src (K := fun acc σ' => ∀ D, σ' D = none → asName sc y (.val (.ref D)) vars (σ'.set D (.list acc)) fun v σ'' => K .next v σ'') K1 O.fr hb hd hkind I1 R1 q1 fun D C h tk led2 σ' oC m2 acc J X eD hC ns eC hcc hCL hof k => ?_
    refine bndA (as_nameT (p := py) (as_name O (k D eD)) { s with heap := h, toks := tk } m led2 (.ref D) J (.val _)) ?_
    intro _ vars3 m3 σ3 led3 h3 tk3 J3 X3 _ q3
    have nO : ¬ Own env C := by
      rintro (e | ⟨_, x, e⟩)
      · exact hCL (e.symm.trans O.he)
      · exact hcc x e
    have zC := X3.at hC eC nO
    refine ⟨m2, ns.ns (J3.N _ zC.1).1, fun h' hs => mkS (fl := .next) (J3.letC (O.he ▸ Ne.symm hCL) zC.1 ns zC.2 hcc hCL hs) (X1.c.trans fun a o hm e n => ?_) rfl q3⟩
    have z := X a o hm e
    have z3 := X3 a o z.1 (e.imp z.2.trans z.2.trans) n
    exact ⟨noAt_mem.mpr ⟨z3.1, hof _ hm⟩, z3.2.trans z.2⟩
theorem st_assignComp {elt iter target : Expr} {ifs : List Expr} {scope : Scope} {pos spos py : Pos} {y : Str} {K : Fl → Vars → Sto → Prop} (K1 : c.Ok w D)
    (O : FunOk c env sc) (hb : blockOk true sc scope.names = true) (hd : firstsOk scope.names = true) (hkind : scope.kind = .function) (hi : isSet iter = false) (hn : env.scope.names = sc)
    (h : Ev c w env vars σ (eval iter env) fun xv σ1 => SrcC xv σ1 fun ds re σ2 => ∀ C, BlkOk c (cEnv env scope C) scope.names → CompR c w (cEnv env scope C) (capV scope.names vars) target ifs elt
      (fun acc σ' => ∀ D, re σ' D = none → asName sc y (.val (.ref D)) vars ((re σ').set D (.list acc)) fun v σ'' => K .next v σ'') ds [] σ2) :
    StG c w env vars σ (exec (.Assign [.Name y py] (.ListComp elt [⟨target, iter, ifs, 0⟩] scope pos) spos) env) K := fun s m led I => st_assignComp_at K1 O hb hd hkind hi hn (h s m led I)
end
end
section
set_option backward.match.sparseCases false
theorem cells_apart : ∀ (names : List (Str × NameKind)) (n : Nat) (acc : List (Str × Addr)), (∀ p ∈ acc, p.2 < n) → (acc.Pairwise fun x y => x.2 ≠ y.2) → (cellsFrom n names acc).Pairwise fun x y => x.2 ≠ y.2
  | [], _, _, _, h => h
  | (x, k) :: r, n, acc, h1, h2 => by
    unfold cellsFrom
    split
    · refine cells_apart r (n + 1) _ (fun p hp => ?_) (List.pairwise_cons.mpr ⟨fun y hy e => ?_, h2⟩)
      · rcases List.mem_cons.mp hp with rfl | hp
        · exact Nat.lt_succ_self _
        · exact Nat.lt_succ_of_lt (h1 p hp)
      · have := h1 y hy
        rw [← e] at this
        exact Nat.lt_irrefl _ this
    · exact cells_apart r n acc h1 h2
theorem cells_above : ∀ (names : List (Str × NameKind)) (n m : Nat) (acc : List (Str × Addr)), m ≤ n → (∀ p ∈ acc, m ≤ p.2) → ∀ p ∈ cellsFrom n names acc, m ≤ p.2
  | [], _, _, _, _, h => h
  | (x, k) :: r, n, m, acc, h1, h2 => by
    unfold cellsFrom
    split
    · refine cells_above r (n + 1) m _ (Nat.le_succ_of_le h1) (fun p hp => ?_)
      rcases List.mem_cons.mp hp with rfl | hp
      · exact h1
      · exact h2 p hp
    · exact cells_above r n m acc h1 h2
theorem cells_nodup : ∀ (names : List (Str × NameKind)) (n : Nat) (acc : List (Str × Addr)), (names.map (·.1)).Nodup → (acc.map (·.1)).Nodup → (∀ p ∈ names, p.1 ∉ acc.map (·.1)) → ((cellsFrom n names acc).map (·.1)).Nodup
  | [], _, _, _, h, _ => h
  | (x, k) :: r, n, acc, h1, h2, h3 => by
    have hx := List.nodup_cons.mp (show (x :: r.map (·.1)).Nodup from h1)
    unfold cellsFrom
    split
    · refine cells_nodup r (n + 1) _ hx.2 (List.nodup_cons.mpr ⟨h3 _ (.head _), h2⟩) (fun p hp q => ?_)
      rcases List.mem_cons.mp (show p.1 ∈ x :: acc.map (·.1) from q) with e | q
      · exact hx.1 (e ▸ List.mem_map_of_mem hp)
      · exact h3 p (.tail _ hp) q
    · exact cells_nodup r n acc hx.2 h2 fun p hp => h3 p (.tail _ hp)
/-- texts told once -/
noncomputable def onceS : List Str → Bool
  | [] => true
  | x :: r => match r.any fun y => sEq x y with | true => false | false => onceS r
theorem onceS_ok : ∀ {l : List Str}, onceS l = true → l.Nodup
  | [], _ => .nil
  | x :: r, h => by
    unfold onceS at h
    cases q : r.any fun y => sEq x y with
    | true => rw [q] at h; cases h
    | false =>
      rw [q] at h
      refine List.nodup_cons.mpr ⟨fun hm => ?_, onceS_ok h⟩
      have : (r.any fun y => sEq x y) = true := List.any_eq_true.mpr ⟨x, hm, sEq_iff.mpr rfl⟩
      rw [q] at this; cases this
/-- a def's names -/
noncomputable def scopeOk (sc : List (Str × NameKind)) (ns : List Str) : Bool :=
  onceS (sc.map (·.1)) && onceS ns && ns.all fun x => match look sc x with | some .local => true | some .cell => true | _ => false
theorem bindL_off {ko : Str → Option NameKind} {x : Str} : ∀ {binds : List (Str × Value)} {m : Str → Option Value}, x ∉ binds.map (·.1) → bindL ko binds m x = m x
  | [], _, _ => rfl
  | (n, v) :: r, m, h => by
    unfold bindL
    rw [bindL_off fun q => h (.tail _ q)]
    split
    · exact if_neg fun q => h (by rw [show x = n from q]; exact .head _)
    · rfl
theorem bindL_at {ko : Str → Option NameKind} {x : Str} {v : Value} (hk : ko x = some .local) : ∀ {binds : List (Str × Value)} {m : Str → Option Value}, (binds.map (·.1)).Nodup → (x, v) ∈ binds → bindL ko binds m x = some v
  | (n, u) :: r, m, hn, h => by
    have hx := List.nodup_cons.mp (show (n :: r.map (·.1)).Nodup from hn)
    unfold bindL
    rcases List.mem_cons.mp h with e | h
    · cases e
      rw [bindL_off hx.1, if_pos hk]
      exact if_pos rfl
    · exact bindL_at hk hx.2 h
theorem bindC_off {ko : Str → Option NameKind} {x : Str} : ∀ {binds : List (Str × Value)} {m : Str → Option Value}, x ∉ binds.map (·.1) → bindC ko binds m x = m x
  | [], _, _ => rfl
  | (n, v) :: r, m, h => by
    unfold bindC
    rw [bindC_off fun q => h (.tail _ q)]
    split
    · rfl
    · exact if_neg fun q => h (by rw [show x = n from q]; exact .head _)
theorem bindC_at {ko : Str → Option NameKind} {x : Str} {v : Value} (hk : ko x ≠ some .local) : ∀ {binds : List (Str × Value)} {m : Str → Option Value}, (binds.map (·.1)).Nodup → (x, v) ∈ binds → bindC ko binds m x = some v
  | (n, u) :: r, m, hn, h => by
    have hx := List.nodup_cons.mp (show (n :: r.map (·.1)).Nodup from hn)
    unfold bindC
    rcases List.mem_cons.mp h with e | h
    · cases e
      rw [bindC_off hx.1, if_neg hk]
      exact if_pos rfl
    · exact bindC_at hk hx.2 h
theorem RKs.look {w : World} {led : Led} {x : Str} {d : Dat} : ∀ {kvs : List (Str × Value)} {fs : List (Str × Dat)}, RKs w led kvs fs → Mine.look fs x = some d → ∃ v, (x, v) ∈ kvs ∧ RV w led v d
  | _, _, .nil, e => by cases e
  | _, _, .cons (x := y) r rs, e => by
    rw [look_cons] at e
    by_cases q : x = y
    · subst q
      rw [if_pos rfl] at e
      cases e
      exact ⟨_, .head _, r⟩
    · rw [if_neg q] at e
      obtain ⟨v, h, R⟩ := rs.look e
      exact ⟨v, .tail _ h, R⟩
theorem RKs.names {w : World} {led : Led} : ∀ {kvs : List (Str × Value)} {fs : List (Str × Dat)}, RKs w led kvs fs → kvs.map (·.1) = fs.map (·.1)
  | _, _, .nil => rfl
  | _, _, .cons _ rs => by rw [List.map_cons, List.map_cons, rs.names]
theorem CellsAre.at {cm : Str → Option Value} {cs : List (Str × Addr)} {cells : List (Addr × Obj)} (X : CellsAre cm cs cells) : (∀ n c, (n, c) ∈ cs → ∃ o, (c, o) ∈ cells ∧ o.data = .cell (cm n)) ∧ cells.map (·.1) = cs.map (·.2) := by
  induction X with
  | nil => exact ⟨fun _ _ h => (nomatch h), rfl⟩
  | @cons n c o cs cells hd _ ih =>
    refine ⟨fun n' c' h => ?_, by rw [List.map_cons, List.map_cons, ih.2]⟩
    rcases List.mem_cons.mp h with e | h
    · cases e; exact ⟨o, .head _, hd⟩
    · obtain ⟨o', h1, h2⟩ := ih.1 n' c' h
      exact ⟨o', .tail _ h1, h2⟩
theorem VarIs.ctx {c c' : Cx} {env : Env} {m : Str → Option Value} {led : Led} {σ : Sto} {x : Str} {v : Value} (e : c'.L = c.L) : VarIs c env m led σ x v → VarIs c' env m led σ x v
  | .loc a b d => .loc (a.trans e.symm) b d
  | .cell a b d f g i => .cell a b d f g i
  | .comp a b d f g => .comp a b d f g
theorem Inv.ctx {c c' : Cx} {w : World} {env : Env} {h : Heap} {m : Str → Option Value} {led : Led} {σ : Sto} {vars : Vars} (e : c'.L = c.L) (e0 : c'.h0 = c.h0) (I : Inv c w env h m led σ vars) : Inv c' w env h m led σ vars :=
  ⟨by rw [e0, e]; exact I.F, by rw [e0, e]; exact I.N, I.nd, I.rs, fun x d q => let ⟨v, V, R⟩ := I.rv x d q; ⟨v, V.ctx e, R⟩, I.cl, I.lo.imp (·.trans e.symm) id⟩
noncomputable def RetR (c : Cx) (w : World) (env : Env) (vars : Vars) (m : Str → Option Value) (led : Led) (σ : Sto) (s : Shared) (Q : Dat → Sto → Prop) (r : Result) (s' : Shared) : Prop :=
  match r with
  | .ok (.ret v) => PostG c w env vars (RV w) m led σ s Q v s'
  | _ => False
/-- what a call of a def's code does -/
structure CodeP (w : World) (D : Nat) (f : Addr) (ds : List Dat) (σ : Sto) (Q : Dat → Sto → Prop) : Prop where
  run : ∀ (c : Cx) env vars, c.Ok w D → ∀ s m led vs, Inv c w env s.heap m led σ vars → RVs w led vs ds → codeAny (model c.prog w) c.A (.call (.ref f) ⟨vs, []⟩) (RetR c w env vars m led σ s Q) s
/-- what a call does -/
structure CallP (w : World) (D : Nat) (f : Value) (ds : List Dat) (σ : Sto) (Q : Dat → Sto → Prop) : Prop where
  run : ∀ (c : Cx) env vars, c.Ok w D → OpL c w env vars σ (fun vs => call f vs) ds Q
theorem CodeP.call {w : World} {D : Nat} {f : Addr} {ds : List Dat} {σ : Sto} {Q : Dat → Sto → Prop} (h : CodeP w D f ds σ Q) : CallP w D (.ref f) ds σ Q := ⟨fun c env vars K s m led vs I R =>
  wpAny_call (codeAny_mono (h.run c env vars K s m led vs I R) fun r s' z => by
    match r, z with
    | .ok (.ret v), z => exact z)⟩
noncomputable def EndF (Q : Dat → Sto → Prop) (fl : Fl) (_ : Vars) (σ : Sto) : Prop :=
  match fl with
  | .ret d => Q d σ
  | .next => Q (.val .none) σ
  | _ => False
section
variable {w : World} {D : Nat} {σ : Sto} {Q : Dat → Sto → Prop} {ds : List Dat} {vars0 : Vars} {f : Addr}
  {name qual : Str} {params : Arguments} {body : List Stmt} {scope : Scope} {dV kV doc pm cdv ct oc : Value} {an od : Option Addr} {osl : Array (Option Value)}
theorem enterC0 {c : Cx} {env : Env} {vars : Vars} (K : c.Ok w (D + 1)) (ho : (KK w).lookup f = some ⟨oc, od, .func (fnOf name qual params body scope dV kV doc pm an cdv ct), osl⟩) (hcd : codeIn (KK w) cdv qual = true)
    (hbind : ∀ (s : Shared) led vs, (KK w).In s.heap → RVs w led vs ds → ∃ binds, BindsTo s (fnOf name qual params body scope dV kV doc pm an cdv ct) ⟨vs, []⟩ binds ∧ RKs w led binds vars0)
    (hsc : scopeOk scope.names (vars0.map (·.1)) = true) (hco : scope.isCoroutine = false) (hgen : scope.isGenerator = false) (hk : scope.kind = .function)
    (h : ∀ c' env, (∀ b o, c.h0.get? b = some o → c'.h0.get? b = some o) → c'.Ok w D → FunOk c' env scope.names → env.scope.names = scope.names → StG c' w env vars0 σ (execs body env) (EndF Q)) {s : Shared} {m : Str → Option Value} {led : Led} {vs : List Value} (I : Inv c w env s.heap m led σ vars) (R : RVs w led vs ds) : codeAny (model c.prog w) c.A (.call (.ref f) ⟨vs, []⟩) (RetR c w env vars m led σ s Q) s := by
  obtain ⟨binds, hb, rk⟩ := hbind s led vs (K.X.keeps I.F.keep) R
  unfold scopeOk at hsc
  simp only [Bool.and_eq_true] at hsc
  obtain ⟨⟨hs1, hs2⟩, hs3⟩ := hsc
  have hsn := onceS_ok hs1
  have hvn := onceS_ok hs2
  have hbn : (binds.map (·.1)).Nodup := rk.names ▸ hvn
  have kind : ∀ y ∈ binds, scope.names.lookup y.1 = some .local ∨ scope.names.lookup y.1 = some .cell := fun y hy => by
    have q := List.all_eq_true.mp hs3 y.1 (rk.names ▸ List.mem_map_of_mem hy)
    rw [← look_eq]
    split at q
    · rename_i e; exact .inl e
    · rename_i e; exact .inr e
    · cases q
  have hkind : (binds.all fun y => scope.names.lookup y.1 == some .local || scope.names.lookup y.1 == some .cell) = true := List.all_eq_true.mpr fun y hy => by
    rcases kind y hy with e | e
    · rw [e]; rfl
    · rw [e]; rfl
  refine code_defC K.B I.F K.X I.N K.T K.hA K.hf K.hk ho hcd (by have := K.hd; omega) hb hkind (cells_nodup scope.names 0 [] hsn .nil fun _ _ q => nomatch q) (fun g L' h₁ tk cells FG F' N' Y B' X' T' lw => ?_) hco hgen hk
  let env' := envOfC qual scope L' f cdv
  let c' : Cx := { prog := c.prog, A := c.A.deeper env', e0 := env', h0 := g, L := L', base := c.base, outer := c.e0 :: c.outer, A0 := c.A, p := c.p, loose := c.loose, mean := c.mean, mg := c.mg, mb := c.mb }
  have K' : c'.Ok w D := ⟨B', X', T', by show (c.A.frames.map (env' :: ·)) = _; rw [K.hA]; rfl, K.hh, rfl, rfl, hk, by
    show c.A.depth + 1 + D < recursionLimit
    have := K.hd; omega, by
    show c.A.units + 3 + 100 * D < cLine
    have := K.hu; omega⟩
  have ko : ∀ x, env'.kindOf x = look scope.names x := fun x => by rw [look_eq]; rfl
  have ap : env'.cells.Pairwise fun x y => x.2 ≠ y.2 := cells_apart scope.names (L' + 1) [] (fun _ q => nomatch q) .nil
  have mm : ∀ x ca, env'.cells.lookup x = some ca → (x, ca) ∈ env'.cells := fun x ca e => look_mem (by rw [look_eq]; exact e)
  have ab : ∀ p ∈ env'.cells, L' + 1 ≤ p.2 := cells_above scope.names (L' + 1) (L' + 1) [] (Nat.le_refl _) fun _ q => nomatch q
  have FO : FunOk c' env' scope.names := {
    hk := hk, hg := rfl, hb := rfl, gl := (fun x e => by rw [ko, e]), he := rfl, hfn := (fun e => by cases e), lo := (fun x e => by rw [ko, e]),
    ce := (fun x e => ⟨by rw [ko, e], Option.isSome_iff_exists.mp (cellsFrom_some scope.names (L' + 1) [] (.inl (by rw [← look_eq]; exact e)))⟩),
    inj := (fun x y ca e1 e2 => name_of_addr (cs := env'.cells) (n := x) (n' := y) (c := ca) ap (mm _ _ e1) (mm _ _ e2)) }
  obtain ⟨Y1, Y2⟩ := CellsAre.at Y
  have hfar : ∀ p ∈ cells, ∀ q ∈ led, q.1 < p.1 := fun p hp q hq => by
    have : p.1 ∈ env'.cells.map (·.2) := Y2 ▸ List.mem_map_of_mem hp
    obtain ⟨z, hz, e⟩ := List.mem_map.mp this
    have h1 := ab z hz
    rw [e] at h1
    exact Nat.lt_trans (lw q hq) h1
  have ndc : ND cells := by
    show (cells.map (·.1)).Nodup
    rw [Y2]
    exact List.pairwise_map.mpr ap
  have nd' : ND (cells ++ led) := by
    show ((cells ++ led).map (·.1)).Nodup
    rw [List.map_append]
    refine List.nodup_append.mpr ⟨ndc, I.nd, fun a ha b hb e => ?_⟩
    obtain ⟨p, hp, rfl⟩ := List.mem_map.mp ha
    obtain ⟨q, hq, rfl⟩ := List.mem_map.mp hb
    have := hfar p hp q hq
    rw [e] at this
    exact Nat.lt_irrefl _ this
  have S : Sub led (cells ++ led) := fun p hp => List.mem_append_right _ hp
  have sfree : ∀ p ∈ cells, σ p.1 = none := fun p hp => I.rs.fresh fun q hq => hfar p hp q hq
  have I' : Inv c' w env' h₁ _ (cells ++ led) σ vars0 := {
    F := F', N := N', nd := nd', rs := I.rs.sub S, lo := .inl rfl,
    cl := fun x ca e => by
      obtain ⟨o, h1, h2⟩ := Y1 x ca (mm _ _ e)
      exact ⟨o, _, List.mem_append_left _ h1, h2, sfree _ h1⟩
    rv := fun x d e => by
      obtain ⟨v, hv, Rv⟩ := rk.look e
      refine ⟨v, ?_, Rv.im (.of S)⟩
      rcases kind _ hv with k | k
      · have kx : env'.kindOf x = some .local := k
        exact .loc rfl kx (bindL_at kx hbn hv)
      · have kx : env'.kindOf x = some .cell := k
        obtain ⟨ca, hca⟩ := Option.isSome_iff_exists.mp (cellsFrom_some scope.names (L' + 1) [] (.inl k))
        obtain ⟨o, h1, h2⟩ := Y1 x ca (mm _ _ hca)
        rw [bindC_at (by rw [kx]; exact fun q => by cases q) hbn hv] at h2
        exact .cell kx (.inl rfl) hca (List.mem_append_left _ h1) h2 (sfree _ h1) }
  refine bndS (h c' env' FG.keep K' FO rfl { s with heap := h₁, toks := tk } _ _ I') ?_
  intro fl fl' vars2 m2 σ2 led2 h2 tk2 I2 X2 R2 q2
  have fin : ∀ v d, RV w led2 v d → Q d σ2 → LeaveK c.h0 c.L m g (RetR c w env vars m led σ s Q) v { s with heap := h2, toks := tk2 } := fun v d Rv q => by
    refine leaveK_ I2.F I2.N fun F2 N2 => ?_
    have X : Ext σ led σ2 led2 := fun a o hm e => X2 a o (S _ hm) e (by
      rintro (q | ⟨_, x, q⟩)
      · exact absurd (lw _ hm) (by rw [← q]; exact Nat.lt_irrefl _)
      · have h1 := ab _ (mm _ _ q)
        exact absurd (Nat.lt_trans (lw _ hm) h1) (Nat.lt_irrefl _))
    exact mkG (b := d) (I.next F2 N2 I2.nd I2.rs X) X Rv q
  cases fl' with
  | next => cases R2; exact fin _ _ (.val .none) q2
  | ret d =>
    obtain ⟨v, rfl, Rv⟩ := R2
    exact fin v d Rv q2
  | brk => exact q2.elim
  | cont => exact q2.elim
theorem enterV (ho : (KK w).lookup f = some ⟨oc, od, .func (fnOf name qual params body scope dV kV doc pm an cdv ct), osl⟩) (hcd : codeIn (KK w) cdv qual = true)
    (hbind : ∀ (s : Shared) led vs, (KK w).In s.heap → RVs w led vs ds → ∃ binds, BindsTo s (fnOf name qual params body scope dV kV doc pm an cdv ct) ⟨vs, []⟩ binds ∧ RKs w led binds vars0)
    (hsc : scopeOk scope.names (vars0.map (·.1)) = true) (hco : scope.isCoroutine = false) (hgen : scope.isGenerator = false) (hk : scope.kind = .function)
    (h : ∀ c env, c.Ok w D → FunOk c env scope.names → env.scope.names = scope.names → StG c w env vars0 σ (execs body env) (EndF Q)) : CodeP w (D + 1) f ds σ Q := ⟨fun c env vars K s m led vs I R => enterC0 K ho hcd hbind hsc hco hgen hk (fun c' env' _ K' => h c' env' K') I R⟩
theorem enterV0 {c : Cx} {env : Env} {vars : Vars} (K : c.Ok w (D + 1)) (ho : (KK w).lookup f = some ⟨oc, od, .func (fnOf name qual params body scope dV kV doc pm an cdv ct), osl⟩) (hcd : codeIn (KK w) cdv qual = true)
    (hbind : ∀ (s : Shared) led vs, (KK w).In s.heap → RVs w led vs ds → ∃ binds, BindsTo s (fnOf name qual params body scope dV kV doc pm an cdv ct) ⟨vs, []⟩ binds ∧ RKs w led binds vars0)
    (hsc : scopeOk scope.names (vars0.map (·.1)) = true) (hco : scope.isCoroutine = false) (hgen : scope.isGenerator = false) (hk : scope.kind = .function)
    (h : ∀ c' env, (∀ b o, c.h0.get? b = some o → c'.h0.get? b = some o) → c'.Ok w D → FunOk c' env scope.names → env.scope.names = scope.names → StG c' w env vars0 σ (execs body env) (EndF Q)) : OpL c w env vars σ (fun vs => call (.ref f) vs) ds Q := fun s m led vs I R =>
  wpAny_call (codeAny_mono (enterC0 K ho hcd hbind hsc hco hgen hk h I R) fun r s' z => by
    match r, z with
    | .ok (.ret v), z => exact z)
/-- a class called -/
theorem call_class {C fI : Addr} (hm : makesIn (KK w) C = true) (hi : findIn (KK w) (.ref C) "__init__" = some (some (.ref fI))) (hf : isFn (KK w) (.ref fI) = true)
    (h : ∀ x d, σ d = none → CodeP w D fI (.inst x C d :: ds) (σ.set d (.ns [])) fun r σ' => r = .val .none ∧ Q (.inst x C d) σ') : CallP w (D + 1) (.ref C) ds σ Q := by
  refine ⟨fun c env vars K => ?_⟩
  intro s m led vs I R
  refine call_cls I.F K.X I.N hm hi hf fun x dx h' F' N' l1 l2 => ?_
  let c' : Cx := { c with A := c.A.under (.builtin "type.__call__" ⟨.ref C :: vs, []⟩) }
  have e1 : (c.A.under (.builtin "type.__call__" ⟨.ref C :: vs, []⟩)).depth = c.A.depth + 1 := depth_under_make ..
  have e2 : (c.A.under (.builtin "type.__call__" ⟨.ref C :: vs, []⟩)).units ≤ c.A.units + 90 := by
    have e3 : (Code.builtin "type.__call__" ⟨.ref C :: vs, []⟩).cUnits = 1 := rfl
    show c.A.units + (Code.builtin "type.__call__" ⟨.ref C :: vs, []⟩).cUnits ≤ _
    rw [e3]; omega
  have K' : c'.Ok w D := ⟨K.B, K.X, K.T, K.hA, K.hh, K.hf, K.hl, K.hk, by
    show (c.A.under (.builtin "type.__call__" ⟨.ref C :: vs, []⟩)).depth + D < recursionLimit
    have := K.hd; omega, by
    show (c.A.under (.builtin "type.__call__" ⟨.ref C :: vs, []⟩)).units + 100 * D < cLine
    have := K.hu; omega⟩
  have l3 : ∀ p ∈ ((dx, dictOf [] 0) :: led), p.1 < x := fun p hp => by
    rcases List.mem_cons.mp hp with rfl | hp
    · exact l2
    · exact Nat.lt_trans (l1 p hp) l2
  have edx : σ dx = none := I.rs.fresh l1
  have S : Sub led ((x, instObj C dx) :: (dx, dictOf [] 0) :: led) := fun p hp => .tail _ (.tail _ hp)
  have X1 : Ext σ led (σ.set dx (.ns [])) ((x, instObj C dx) :: (dx, dictOf [] 0) :: led) := fun a o hm e => ⟨S _ hm, Sto.set_ne (Nat.ne_of_lt (l1 _ hm))⟩
  have I1 : Inv c w env h' m ((x, instObj C dx) :: (dx, dictOf [] 0) :: led) (σ.set dx (.ns [])) vars :=
    I.next F' N' ((I.nd.cons l1).cons l3) (((I.rs.new (mo := .ns []) l1 ⟨[], 0, rfl, .nil⟩)).sub fun p hp => .tail _ hp) X1
  refine codeAny_mono ((h x dx edx).run c' env vars K' { s with heap := h' } m _ (.ref x :: vs) (Inv.ctx (c := c) (c' := c') rfl rfl I1) (.cons (.inst (.head _)) (R.im (.of S)))) fun r s' z => ?_
  match r, z with
  | .ok (.ret v), z =>
    obtain ⟨b, σ2, led2, h2, tk2, e, I2, X2, R2, q⟩ := (show PostG c' w env vars (RV w) m _ _ _ _ v s' from z)
    obtain ⟨eb, q⟩ := q
    subst eb
    cases R2
    rw [e]
    exact ⟨rfl, mkG (b := .inst x C dx) (Inv.ctx (c := c') (c' := c) rfl rfl I2) (X1.trans X2) (.inst (X2.at (.head _) ((Sto.set_ne (Nat.ne_of_gt l2)).trans (I.rs.fresh fun p hp => Nat.lt_trans (l1 p hp) l2))).1) q⟩
end
theorem Cx.Ok.le {c : Cx} {w : World} {D D' : Nat} (K : c.Ok w D) (h : D' ≤ D) : c.Ok w D' := ⟨K.B, K.X, K.T, K.hA, K.hh, K.hf, K.hl, K.hk, by have := K.hd; omega, by have := K.hu; omega⟩
theorem CallP.le {w : World} {D D' : Nat} {f : Value} {ds : List Dat} {σ : Sto} {Q : Dat → Sto → Prop} (h : CallP w D f ds σ Q) (l : D ≤ D') : CallP w D' f ds σ Q := ⟨fun c env vars K => h.run c env vars (K.le l)⟩
theorem CallP.mono {w : World} {D : Nat} {f : Value} {ds : List Dat} {σ : Sto} {Q Q' : Dat → Sto → Prop} (h : CallP w D f ds σ Q) (q : ∀ d σ', Q d σ' → Q' d σ') : CallP w D f ds σ Q' := ⟨fun c env vars K s m led vs I R =>
  bndG (h.run c env vars K s m led vs I R) fun _ _ _ _ _ _ I X R z => mkG I X R (q _ _ z)⟩
theorem CallP.use {w : World} {D : Nat} {f : Value} {ds : List Dat} {σ : Sto} {Q : Dat → Sto → Prop} (h : CallP w D f ds σ Q) {c : Cx} {env : Env} {vars : Vars} (K : c.Ok w D) : OpL c w env vars σ (fun vs => PySem.call f vs) ds Q := h.run c env vars K
end
section
set_option backward.match.sparseCases false
/-- the built-ins that are called -/
inductive Bi
  | abs | len | max | min | int | str | range | tuple | list | sum
noncomputable def Bi.val : Bi → Value
  | .abs => .builtin "abs"
  | .len => .builtin "len"
  | .max => .builtin "max"
  | .min => .builtin "min"
  | .int => .type "int"
  | .str => .type "str"
  | .range => .type "range"
  | .tuple => .type "tuple"
  | .list => .type "list"
  | .sum => .builtin "sum"
/-- a tuple or a list, told by its data -/
noncomputable def seqD (d : Dat) (σ : Sto) (K : List Dat → Prop) : Prop :=
  match d with
  | .tup l => K l
  | .val v => refV v fun a => ∃ l, σ a = some (.list l) ∧ K l
  | _ => False
noncomputable def tupleD (d : Dat) (σ : Sto) (K : List Dat → Prop) : Prop :=
  match d with
  | .tup l => K l
  | .val v => refV v fun a => ∃ l, σ a = some (.list l) ∧ Nat.ble l.length 1000 = true ∧ K l
  | _ => False
noncomputable def lenD (d : Dat) (σ : Sto) (K : Nat → Prop) : Prop :=
  match d with
  | .tup l => Nat.ble l.length 1000 = true ∧ K l.length
  | .val v => refV v fun a => ∃ l, σ a = some (.list l) ∧ Nat.ble l.length 1000 = true ∧ K l.length
  | .str x => x.length ≤ 1000000 ∧ K x.length
  | _ => False
noncomputable def toIntD (d : Dat) (K : Int → Prop) : Prop :=
  match d with
  | .int a => K a
  | .val v => match v with | .bool b => K (if b then 1 else 0) | _ => False
  | _ => False
noncomputable def rngD (ds : List Dat) (K : Int → Int → Prop) : Prop :=
  match ds with
  | [] => False
  | d :: r => intD d fun a => match r with
    | [] => K 0 a
    | e :: q => nul q (intD e fun b => K a b)
noncomputable def callBi (b : Bi) (ds : List Dat) (σ : Sto) (Q : Dat → Sto → Prop) : Prop :=
  match b with
  | .abs => one ds fun d => intD d fun a => Q (.int (a.natAbs : Int)) σ
  | .len => one ds fun d => lenD d σ fun n => Q (.int (n : Int)) σ
  | .max => two ds fun d e => intD d fun a => intD e fun b => Q (.int (if b > a then b else a)) σ
  | .min => two ds fun d e => intD d fun a => intD e fun b => Q (.int (if b < a then b else a)) σ
  | .int => one ds fun d => toIntD d fun a => Q (.int a) σ
  | .str => one ds fun d => intD d fun a => a.natAbs < 1000000 ∧ Q (.str (toString a)) σ
  | .range => rngD ds fun a b => Q (.rng a b) σ
  | .tuple => one ds fun d => tupleD d σ fun l => Q (.tup l) σ
  | .list => one ds fun d => seqD d σ fun l => Nat.ble l.length 1000 = true ∧ ∀ D, σ D = none → Q (.val (.ref D)) (σ.set D (.list l))
  | .sum => one ds fun d => seqD d σ fun l => ∃ ns : List Int, l = ns.map .int ∧ Q (.int ns.sum) σ
theorem Bi.keeps {w : World} (b : Bi) : KeepsV w b.val := by
  cases b <;> first | exact .inr (.inl ⟨_, rfl⟩) | exact .inr (.inr ⟨_, rfl⟩)
theorem RVs.ints {w : World} {led : Led} {vs : List Value} {ns : List Int} (r : RVs w led vs (ns.map .int)) : IntsAre vs ns := by
  induction ns generalizing vs with
  | nil =>
    obtain rfl := r.inv0
    exact .nil
  | cons i ns ih =>
    obtain ⟨v, us, rfl, a, b⟩ := RVs.inv r
    obtain ⟨t, rfl⟩ := a.ofInt
    exact .cons _ _ (ih b)
theorem abs_nat {a : Int} : (if a < 0 then -a else a) = (a.natAbs : Int) := by split <;> omega
section
variable {c : Cx} {w : World} {env : Env} {vars : Vars} {σ : Sto} {D : Nat} {sc : List (Str × NameKind)}
@[elab_as_elim] theorem seq_ok (K : c.Ok w D) {s : Shared} {m : Str → Option Value} {led : Led} (I : Inv c w env s.heap m led σ vars) {d : Dat} {v : Value} {Kl : List Dat → Prop} {P : Value → Prop} (h : seqD d σ Kl) (R : RV w led v d)
    (k1 : ∀ a l vs, s.heap.IsTuple a vs.toArray → TAt w led a vs → RVs w led vs l → Kl l → P (.ref a)) (k2 : ∀ a l vs k, (a, lstO vs k) ∈ led → RVs w led vs l → Kl l → P (.ref a)) : P v := by
  cases R with
  | tup T r =>
    obtain ⟨o, ho, hcl, k, hdt⟩ := T.isTup K I.F I.N
    exact k1 _ _ _ ⟨o, ho, hcl, k, hdt⟩ T r h
  | val v =>
    refine refV_is h fun a q => ?_
    obtain ⟨l, el, q⟩ := q
    obtain ⟨o, ho, vs, k, e, r⟩ := I.rs _ _ el
    exact k2 a l vs k (e ▸ ho) r q
  | _ => exact False.elim h
theorem pow_small {a : Int} (h1 : a.natAbs < 1000000) : a.natAbs.log2 < 40 := by
  by_cases h0 : a.natAbs = 0
  · rw [h0]; decide
  · exact Nat.lt_of_lt_of_le ((Nat.log2_lt h0).mpr (show a.natAbs < 2 ^ 20 by omega)) (by decide)
theorem op_bi (K : c.Ok w D) {b : Bi} {ds : List Dat} {Q : Dat → Sto → Prop} (h : callBi b ds σ Q) : OpL c w env vars σ (fun vs => call b.val vs) ds Q := by
  intro s m led vs I R
  have put : ∀ {h'} (d : Dat) (v : Value), Fr c.h0 c.L h' m → News c.h0 c.L h' led → RV w led v d → Q d σ → ∀ tk, PostG c w env vars (RV w) m led σ s Q v { s with heap := h', toks := tk } := fun d v F' N' Rv q tk => mkG (b := d) (I.next F' N' I.nd I.rs .rfl) .rfl Rv q
  cases b with
  | abs => exact one_ok h R fun v d R h => intD_ok h R fun a t h => call_abs_int fun u tk => PostG.same I (by rw [abs_nat]; exact .int _ u) h
  | len =>
    refine one_ok h R fun v d R h => ?_
    cases R with
    | tup T r =>
      have z := r.len
      refine PyProof.Rows.len_tuple (T.isTup K I.F I.N) (by rw [List.size_toArray, z]; have := Nat.ble_eq.mp h.1; omega) ?_
      rw [List.size_toArray, z]
      exact PostG.same I (.int _ _) h.2
    | val v =>
      refine refV_is h fun a q => ?_
      obtain ⟨l, el, hz, q⟩ := q
      obtain ⟨o, ho, vs, k, rfl, r⟩ := I.rs _ _ el
      refine call_len_list (I.N.isList ho) (by rw [List.size_toArray, r.len]; have := Nat.ble_eq.mp hz; omega) ?_
      rw [List.size_toArray, r.len]
      exact PostG.same I (.int _ _) q
    | str x t => exact P.len_str (by have := h.1; omega) (PostG.same I (.int _ _) h.2)
    | _ => exact False.elim h
  | max => exact two_ok h R fun v d u e R R' h => intD_ok h R fun a t h => intD_ok h R' fun b t' h => max_two_N K.hh I.F I.N fun h' tk F' N' => put _ _ F' N' (.int _ _) h tk
  | min => exact two_ok h R fun v d u e R R' h => intD_ok h R fun a t h => intD_ok h R' fun b t' h => min_two_N K.hh I.F I.N fun h' tk F' N' => put _ _ F' N' (.int _ _) h tk
  | int =>
    refine one_ok h R fun v d R h => ?_
    cases R with
    | int a t => exact call_int_int (PostG.here I (.int _ _) h)
    | val v =>
      cases v with
      | bool b => exact call_int_bool (PostG.same I (.int _ _) h)
      | _ => exact False.elim h
    | _ => exact False.elim h
  | str => exact one_ok h R fun v d R h => intD_ok h R fun a t h => P.str_of_int (Nat.lt_of_lt_of_le (pow_small h.1) (by decide)) (PostG.same I (.str _ _) h.2)
  | range =>
    have key : ∀ (a b : Int) (t u : Tok) (n : Nat), Q (.rng a b) σ → PostG c w env vars (RV w) m led σ s Q (.ref s.heap.objs.size) { s with heap := s.heap.push (rngO a b t u n), toks := s.toks + 1 } := fun a b t u n q => mkG (b := .rng a b) (I.push (I.F.push _) (I.N.push I.F _) I.low) Ext.cons (.rng (.head _)) q
    cases R with
    | nil => exact False.elim h
    | cons a r =>
      refine intD_ok h a fun i t h => ?_
      cases r with
      | nil =>
        refine call_range_1 ?_
        exact mkG (b := .rng 0 i) (I.push (I.F.push _) (I.N.push I.F _) I.low) Ext.cons (.rng (.head _)) h
      | cons b r =>
        refine nul_ok h r fun h => ?_
        refine intD_ok h b fun j u h => ?_
        refine call_range_2 ?_
        exact mkG (b := .rng i j) (I.push (I.F.push _) (I.N.push I.F _) I.low) Ext.cons (.rng (.head _)) h
  | tuple =>
    refine one_ok h R fun v d R h => ?_
    cases R with
    | tup T r => exact call_tuple_tup (T.isTup K I.F I.N) (PostG.here I (.tup T r) h)
    | val v =>
      refine refV_is h fun a h => ?_
      obtain ⟨l, el, hz, h⟩ := h
      obtain ⟨o, ho, vs, k, rfl, r⟩ := I.rs _ _ el
      refine kde_tupleOf I.F I.N (I.N.isList ho) (by rw [List.size_toArray, r.len]; have := Nat.ble_eq.mp hz; omega) rfl fun D h' F' N' f => ?_
      exact mkG (b := .tup l) (I.push F' N' f) Ext.cons (.tup ⟨0, .inl (.head _)⟩ (r.im (.of fun _ h => .tail _ h))) h
    | _ => exact False.elim h
  | list =>
    have new : ∀ l vs D k h', Fr c.h0 c.L h' m → News c.h0 c.L h' ((D, lstO vs k) :: led) → (∀ p ∈ led, p.1 < D) → RVs w led vs l → (∀ D, σ D = none → Q (.val (.ref D)) (σ.set D (.list l))) → ∀ tk, PostG c w env vars (RV w) m led σ s Q (.ref D) { s with heap := h', toks := tk } := fun l vs D k h' F' N' f r q tk =>
      mkG (I.pushM (mo := .list l) F' N' f ⟨_, k, rfl, r.im (.of fun _ h => .tail _ h)⟩) (Ext.new f) (.val _) (q D (I.rs.fresh f))
    exact one_ok h R fun v d R h => seq_ok K I h R (fun a l vs T _ r h => list_copyKT I.F I.N T (fun D k h' F' N' f => new l vs D k h' F' N' f r h.2 _) (by rw [List.size_toArray, r.len, sizeLine_eq]; have := Nat.ble_eq.mp h.1; omega))
      fun a l vs k ho r h => list_copyK I.F I.N (I.N.isList ho) (fun D k h' F' N' f => new l vs D k h' F' N' f r h.2 _) (by rw [List.size_toArray, r.len, sizeLine_eq]; have := Nat.ble_eq.mp h.1; omega)
  | sum =>
    refine one_ok h R fun v d R h => seq_ok K I h R (fun a l vs hl _ r h => ?_) fun a l vs k ho r h => ?_
    · obtain ⟨ns, rfl, q⟩ := h
      have hi := r.ints
      obtain ⟨xs, hx⟩ := hi.allInts.items
      have hn : numsOf vs.toArray.toList = ns := by rw [show vs.toArray.toList = vs from rfl, hi.numsOf]
      rw [hx] at hl hn
      rw [nums_intItems] at hn
      refine ktm_sumG K.hh hl fun h' tk t' hk => ?_
      rw [preSum_eq, List.take_of_length_le (by simp), hn]
      exact put (h' := h') (.int ns.sum) (.int ns.sum t') (I.F.keeps hk) (I.N.grown hk) (.int _ _) q tk
    · obtain ⟨ns, rfl, q⟩ := h
      exact sumK K.hh I.F I.N (I.N.isList ho) r.ints fun h' tk t' F' N' => put _ _ F' N' (.int _ _) q tk
end
end
section
set_option backward.match.sparseCases false
/-- the methods of texts and lists that are called -/
inductive Sm
  | strip | endswith | split | join | index
inductive Lm
  | append | pop | extend
noncomputable def smTab : List (Str × Sm) := [("strip", .strip), ("endswith", .endswith), ("split", .split), ("join", .join), ("index", .index)]
noncomputable def lmTab : List (Str × Lm) := [("append", .append), ("pop", .pop), ("extend", .extend)]
noncomputable def Sm.id : Sm → String
  | .strip => "str.strip"
  | .endswith => "str.endswith"
  | .split => "str.split"
  | .join => "str.join"
  | .index => "str.index"
noncomputable def Lm.id : Lm → String
  | .append => "list.append"
  | .pop => "list.pop"
  | .extend => "list.extend"
noncomputable def Sm.val (o : Sm) : Value := .builtin o.id
noncomputable def Lm.val (o : Lm) : Value := .builtin o.id
noncomputable def Sm.name : Sm → Str
  | .strip => "strip"
  | .endswith => "endswith"
  | .split => "split"
  | .join => "join"
  | .index => "index"
noncomputable def Lm.name : Lm → Str
  | .append => "append"
  | .pop => "pop"
  | .extend => "extend"
noncomputable def popD : List Dat → Option (List Dat × Dat)
  | [] => none
  | x :: r => match popD r with
    | some (p, y) => some (x :: p, y)
    | none => some ([], x)
noncomputable def smD (o : Sm) (x : Str) (ds : List Dat) (σ : Sto) (Q : Dat → Sto → Prop) : Prop :=
  match o with
  | .strip => nul ds (x.length ≤ 1000000 ∧ Q (.str (Txt.strip x)) σ)
  | .endswith => one ds fun d => strD d fun y => Q (.val (.bool (Txt.endswith x y))) σ
  | .split => nul ds (x.length ≤ 1000000 ∧ ∀ D, σ D = none → Q (.val (.ref D)) (σ.set D (.list ((Txt.words x).map .str))))
  | .join => one ds fun d => refD d fun a => ∃ xs : List Str, (σ a = some (.list (xs.map .str)) ∧ (xs.map (·.length)).sum + xs.length * x.length ≤ 1000000) ∧ Q (.str (Txt.join x xs)) σ
  | .index => one ds fun d => strD d fun y => 0 ≤ Txt.find x y ∧ Q (.int (Txt.find x y)) σ
noncomputable def lmD (o : Lm) (a : Addr) (ds : List Dat) (σ : Sto) (Q : Dat → Sto → Prop) : Prop :=
  match o with
  | .append => one ds fun d => ∃ l, σ a = some (.list l) ∧ l.length ≤ 1000 ∧ Q (.val .none) (σ.set a (.list (l ++ [d])))
  | .pop => nul ds (∃ l, σ a = some (.list l) ∧ l.length ≤ 1000 ∧ som (popD l) fun p => Q p.2 (σ.set a (.list p.1)))
  | .extend => one ds fun d => refD d fun b => ∃ l l2, σ a = some (.list l) ∧ σ b = some (.list l2) ∧ l.length + l2.length ≤ 1000 ∧ Q (.val .none) (σ.set a (.list (l ++ l2)))
theorem RVs.strs {w : World} {led : Led} {vs : List Value} {xs : List Str} (r : RVs w led vs (xs.map .str)) : StrsAre vs xs := by
  induction xs generalizing vs with
  | nil =>
    obtain rfl := r.inv0
    exact .nil
  | cons i ns ih =>
    obtain ⟨v, us, rfl, a, b⟩ := RVs.inv r
    obtain ⟨t, rfl⟩ := a.ofStr
    exact .cons _ _ (ih b)
theorem popD_cons {x : Dat} {r : List Dat} : popD (x :: r) ≠ none := fun h => by
  unfold popD at h
  cases e : popD r <;> (rw [e] at h; cases h)
theorem RVs.popL {w : World} {led : Led} : ∀ {vs : List Value} {l : List Dat} {p : List Dat × Dat}, RVs w led vs l → popD l = some p → ∃ pv v, kl_last vs = some (pv, v) ∧ RVs w led pv p.1 ∧ RV w led v p.2
  | _, _, _, .nil, e => by cases e
  | _, _, p, .cons (v := v) (vs := vs) (ds := r) a rs, e => by
    unfold popD at e
    unfold kl_last
    cases q : popD r with
    | none =>
      rw [q] at e
      cases e
      cases rs with
      | nil => exact ⟨[], v, rfl, .nil, a⟩
      | cons _ _ => exact absurd q popD_cons
    | some z =>
      rw [q] at e
      cases e
      obtain ⟨pv, u, e1, r1, r2⟩ := rs.popL q
      rw [e1]
      exact ⟨v :: pv, u, rfl, .cons a r1, r2⟩
section
variable {c : Cx} {w : World} {env : Env} {vars : Vars} {σ : Sto} {D : Nat} {sc : List (Str × NameKind)}
theorem strs_rv {led : Led} : ∀ (l : List (Str × Tok)), RVs w led (strValues l) ((l.map (·.1)).map .str)
  | [] => .nil
  | p :: r => .cons (.str p.1 p.2) (strs_rv r)
theorem op_sm (K : c.Ok w D) {o : Sm} {x : Str} {ds : List Dat} {Q : Dat → Sto → Prop} (h : smD o x ds σ Q) : OpL c w env vars σ (fun vs => call o.val vs) (.str x :: ds) Q := by
  intro s m led vs I R
  have str : ∀ (d : Str) (t : Tok), Q (.str d) σ → ∀ tk, PostG c w env vars (RV w) m led σ s Q (.str d t) { s with toks := tk } := fun d t q tk => PostG.same I (.str d t) q
  cases R with
  | cons a r =>
    cases a with
    | str _ tx =>
      cases o with
      | strip => exact nul_ok h r fun h => SC.strip (fun t' k => str _ t' h.2 k) (by have := h.1; rw [sizeLine_eq]; omega)
      | endswith => exact one_ok h r fun v d R h => strD_ok h R fun y t h => SC.endswith (PostG.here I (.val _) h)
      | split =>
        refine nul_ok h r fun h => splitN0A I.F I.N (fun l h' k e _ _ _ F' N' => ?_) (by have := h.1; rw [sizeLine_eq]; omega)
        exact mkG (I.pushM (mo := .list ((Txt.words x).map .str)) F' N' I.low ⟨_, 0, rfl, e ▸ strs_rv l⟩) (Ext.new I.low) (.val _) (h.2 _ (I.rs.fresh I.low))
      | join =>
        refine one_ok h r fun v d R h => refD_ok h R fun a h => ?_
        obtain ⟨xs, ⟨el, hz⟩, q⟩ := h
        obtain ⟨o, ho, vs, k, rfl, r⟩ := I.rs _ _ el
        exact join_list (I.N.isList ho) r.strs (Nat.le_trans hz (by decide)) fun t' k => str _ t' q k
      | index => exact one_ok h r fun v d R h => strD_ok h R fun y t h => index_or K.hh (fun e _ => by have := h.1; omega) fun _ _ => PostG.same I (.int _ _) h.2
theorem op_lm (K : c.Ok w D) {o : Lm} {a : Addr} {ds : List Dat} {Q : Dat → Sto → Prop} (h : lmD o a ds σ Q) : OpL c w env vars σ (fun vs => call o.val vs) (.val (.ref a) :: ds) Q := by
  intro s m led vs I R
  have fin : ∀ {l l' : List Dat} {vs : List Value} {k : Nat} {v : Value} {d : Dat} {h' : Heap} {tk : Nat}, σ a = some (.list l) → Fr c.h0 c.L h' m → News c.h0 c.L h' (lset led a (lstO vs k)) → RVs w led vs l' → RV w (lset led a (lstO vs k)) v d → Q d (σ.set a (.list l')) → PostG c w env vars (RV w) m led σ s Q v { s with heap := h', toks := tk } := fun el F' N' r rv q =>
    mkG (I.lset el nh_list F' N' (mo := .list _) ⟨_, _, rfl, r⟩) (Ext.set el nh_list) rv q
  cases R with
  | cons b r =>
    cases b with
    | val _ =>
      cases o with
      | append =>
        refine one_ok h r fun v d Rd h => ?_
        obtain ⟨l, el, hz, q⟩ := h
        obtain ⟨o, ho, vs, k, rfl, r⟩ := I.rs _ _ el
        refine append_at (its := vs.toArray) (n := k) (hsz := by rw [List.size_toArray, r.len, sizeLine_eq]; omega) (I.N _ ho).1 fun h' hs hD => ?_
        have z := I.N _ ho
        have e1 : ({ cls := .type "list", data := .seq (vs.toArray.push v) (k + 1) } : Obj) = lstO (vs ++ [v]) (k + 1) := by
          show _ = ({ cls := .type "list", data := .seq (vs ++ [v]).toArray (k + 1) } : Obj)
          rw [List.push_toArray]
        exact fin el (I.F.change hs z.2.1 z.2.2) (news_lset I.N ho (hD.trans (congrArg some e1)) fun b ob q e => hs.extBut _ _ q e) (r.app (.cons Rd .nil)) (.val _) q
      | pop =>
        refine nul_ok h r fun h => ?_
        obtain ⟨l, el, hz, q⟩ := h
        obtain ⟨o, ho, vs, k, rfl, r⟩ := I.rs _ _ el
        refine som_ok q fun p e q => ?_
        obtain ⟨pv, v, e1, r1, r2⟩ := r.popL e
        have im : Im led (lset led a (lstO pv (k + 1))) := im_lset ho I.nd (.of_cls (.inl rfl))
        exact kl_pop (its := vs.toArray) (n := k) I.F I.N (p := pv) (y := v) e1 (upd_of ho I.nd) (by rw [List.toList_toArray, r.len, sizeLine_eq]; omega) fun h' F' N' => fin el F' N' r1 (r2.im im) q
      | extend =>
        refine one_ok h r fun v d Rd h => refD_ok h Rd fun b h => ?_
        obtain ⟨l, l2, el, el2, hz, q⟩ := h
        obtain ⟨o, ho, vs, k, rfl, r⟩ := I.rs _ _ el
        obtain ⟨o2, ho2, vs2, k2, rfl, r2⟩ := I.rs _ _ el2
        have hl : vs.length + vs2.length ≤ 1000 := by rw [r.len, r2.len]; exact hz
        have too : Builtin.List.listTooLong (vs.length + vs2.length) = false := decide_eq_false (by rw [sizeLine_eq]; omega)
        cases r2 with
        | nil =>
          refine kxn_extend (its := vs.toArray) (its2 := #[]) (n := k) I.F I.N ho2 rfl (upd_of ho I.nd) ?_ (by rw [List.toList_toArray, sizeLine_eq]; omega) (by rw [List.size_toArray, sizeLine_eq]; show vs.length + 0 ≤ _; omega) fun h' F' N' => fin el F' N' ((List.append_nil l).symm ▸ r) (.val _) q
          rw [show Builtin.List.listTooLong (vs.toArray.size + (#[] : Array Value).size) = false from too, Bool.and_false]; decide
        | cons x xs =>
          refine kl_extend (its := vs.toArray) (n := k) (l := vs ++ _) I.F I.N ho2 (by simp) (by simp) (upd_of ho I.nd) ?_ (by rw [List.toList_toArray, sizeLine_eq]; omega) (by rw [List.size_toArray, List.size_toArray, sizeLine_eq]; omega) fun h' F' N' => fin el F' N' (r.app (.cons x xs)) (.val _) q
          rw [List.size_toArray, List.size_toArray, too, Bool.and_false]; decide
end
end
section
section
variable {prog : Program} {w : World} {A : Around} {E : Value → Shared → Prop} {s : Shared} {h₀ : Heap} {L : Addr} {m : Str → Option Value} {news : Led} {Q : Value → Shared → Prop}
theorem sliceApplied_mid {sl : Addr} {u v : Tok} {Q : Int × Int × Nat → Shared → Prop} (hs : s.heap.IsSliceOf sl (.int 1 u) (.int (-1) v) .none) (h : Q (1, 1, 0) s) :
    wpAny (model prog w) A (Builtin.Slice.sliceApplied (.ref sl) (pure (2 : Int))) Q E s := by
  obtain ⟨os, hos, hcs, hds⟩ := id hs
  unfold Builtin.Slice.sliceApplied Builtin.Slice.sliceFields
  refine wpAny_bind (wpAny_bind (wpAny_field hos hds (x := .int 1 u) rfl (wpAny_bind (wpAny_field hos hds (x := .int (-1) v) rfl (wpAny_bind (wpAny_field hos hds (x := .none) rfl (wpAny_pure ?_)))))))
  refine wpAny_bind (slicePart_none ?_)
  show wpAny _ _ (if ((1 : Int) == 0) = true then _ else _) _ _ s
  rw [if_neg (by decide)]
  refine wpAny_bind (slicePart_int (wpAny_bind (slicePart_int (wpAny_bind (wpAny_pure ?_)))))
  show wpAny _ _ (match Builtin.Slice.sliceAdjust (some (1 : Int)) (some (-1)) 1 (2 : Int) with | (lo, hi) => pure (lo, (1 : Int), Builtin.Slice.slicePlaces lo hi 1)) _ _ s
  have e : Builtin.Slice.sliceAdjust (some (1 : Int)) (some (-1)) 1 (2 : Int) = (1, 1) := by decide
  rw [e]
  have e2 : Builtin.Slice.slicePlaces 1 1 1 = 0 := by decide
  show wpAny _ _ (pure ((1 : Int), (1 : Int), Builtin.Slice.slicePlaces 1 1 1)) _ _ s
  rw [e2]
  exact wpAny_pure h
theorem getItem_tuple_mid {t sl : Addr} {v0 v1 : Value} {u v : Tok} (ht : IsTup s.heap t #[v0, v1]) (hs : s.heap.IsSliceOf sl (.int 1 u) (.int (-1) v) .none)
    (h : Q (.ref s.heap.objs.size) { s with heap := s.heap.push { cls := .type "tuple", data := .seq #[] } }) : wpAny (model prog w) A (getItem (.ref t) (.ref sl)) Q E s := by
  have hdrop : sizeOk (.seq (#[] : Array Value)) := Nat.zero_le _
  obtain ⟨os, hos, hcs, hds⟩ := id hs
  have hTs : s.TypeIs (.ref sl) "slice" := ⟨os, hos, hcs⟩
  unfold getItem
  try with_reducible refine wpAny_holding ?_
  first | refine wpAny_bind (wpAny_pure ?_) | skip
  refine wpAny_bind (wpAny_sequenceKey ht.typeIs (by decide) ?_)
  refine wpAny_bind (wpAny_callSpecial?_slot (name := Str.ofString "__getitem__") ht.typeIs slot_tuple_getitem
    (wpAny_call_entry slot_tuple_getitem ht.typeIs entry_tuple_getitem ?_ (args_tuple_getitem _ _)))
  show wpAny _ _ (Builtin.Tuple.tupleItemsOf (.ref t) >>= _) _ _ s
  refine wpAny_bind (tupleItemsOf_ ht ?_)
  refine wpAny_bind (wpAny_typeOf hTs ?_)
  rw [if_pos (by decide)]
  refine wpAny_bind (sliceApplied_mid hs ?_)
  show wpAny _ _ (if ((1 : Int) == 0 && (1 : Int) == 1 && (0 : Nat) == (#[v0, v1] : Array Value).size) = true then _ else _) _ _ s
  rw [if_neg (by simp)]
  first
    | exact wpAny_bind (m := Builtin.Tuple.tupleExact _) (wpAny_newObj_type (wpAny_pure ⟨_, rfl, wpAny_pure h⟩) hdrop)
    | exact wpAny_bind (m := Builtin.Tuple.tupleExact _) (wpAny_newObj_type (wpAny_bind (wpAny_pure (wpAny_pure ⟨_, rfl, wpAny_pure h⟩))) hdrop)
    | exact wpAny_bind (wpAny_bind (m := Builtin.Tuple.tupleExact _) (wpAny_newObj_type (wpAny_pure (wpAny_pure ⟨_, rfl, wpAny_pure h⟩)) hdrop))
    | exact wpAny_bind (wpAny_bind (m := Builtin.Tuple.tupleExact _) (wpAny_newObj_type (wpAny_pure ⟨_, rfl, wpAny_pure h⟩) hdrop))
theorem slice_mid {value slice : Expr} {t : Addr} {v0 v1 : Value} {u v : Tok} (F : Fr h₀ L s.heap m) (N : News h₀ L s.heap news) (ht : IsTup s.heap t #[v0, v1])
    (h : ∀ h', Fr h₀ L h' m → News h₀ L h' ((s.heap.objs.size + 1, tupO [] 0) :: news) → Q (.ref (s.heap.objs.size + 1)) { s with heap := h' })
    (hs : subscripted slice false (.ref t) (.ref s.heap.objs.size) = operate [.ref s.heap.objs.size, .ref t] (getItem (.ref t) (.ref s.heap.objs.size)))
    (hg : ∀ r, letTemporaryGo value (.ref t) r = pure ()) :
    wpAny (model prog w) A (subscriptTail value slice (.ref t) (.ref s.heap.objs.size)) Q E { s with heap := s.heap.push { cls := .type "slice", data := .fields #[.int 1 u, .int (-1) v, .none] } } := by
  have ht' : IsTup (s.heap.push { cls := .type "slice", data := .fields #[.int 1 u, .int (-1) v, .none] }) t #[v0, v1] := ht.keeps fun _ _ e => Heap.get?_push_of_some _ e
  refine subscriptTail_ops (s := { s with heap := s.heap.push { cls := .type "slice", data := .fields #[.int 1 u, .int (-1) v, .none] } }) ht'.typeIs slot_tuple_getitem.lookup
    (getItem_tuple_mid ht' (Heap.IsSliceOf.new ..) ?_) hs hg
  have N1 := News.push (F.push { cls := .type "slice", data := .fields #[.int 1 u, .int (-1) v, .none] }) (N.grown fun _ _ e => Heap.get?_push_of_some _ e) { cls := .type "tuple", data := .seq #[] }
  rw [Heap.size_push] at N1
  show Q (.ref (s.heap.push _).objs.size) _
  rw [Heap.size_push]
  exact h _ ((F.push _).push _) N1
end
noncomputable def isName : Expr → Bool
  | .Name _ _ => true
  | _ => false
theorem goName {value : Expr} {v : Value} (h : isName value = true) : ∀ r, letTemporaryGo value v r = pure () := by
  intro r; cases value <;> first | rfl | exact absurd h (by simp [isName])
noncomputable def noneX (v : Value) (X : Prop) : Prop := match v with | .none => X | _ => False
noncomputable def fromS (x : Str) (l : Dat) (j : Int) (σ : Sto) (Q : Dat → Sto → Prop) : Prop :=
  match l with
  | .int i => Q (.str (Txt.slice x (some i) (some j))) σ
  | .val v => noneX v (Q (.str (Txt.slice x none (some j))) σ)
  | _ => False
noncomputable def tailT (ds : List Dat) (σ : Sto) (Q : Dat → Sto → Prop) : Prop := match ds with | [] => False | _ :: r => Nat.ble r.length 100 = true ∧ Q (.tup r) σ
noncomputable def partT (ds : List Dat) (u : Dat) (σ : Sto) (Q : Dat → Sto → Prop) : Prop :=
  match u with
  | .int j => j = -1 ∧ two ds fun _ _ => Q (.tup []) σ
  | .val v => noneX v (tailT ds σ Q)
  | _ => False
/-- a part of a sequence -/
noncomputable def sliceD (value : Expr) (o l u k : Dat) (σ : Sto) (Q : Dat → Sto → Prop) : Prop :=
  match o with
  | .str x => noneIs k (x.length ≤ 1000000 ∧ intD u fun j => fromS x l j σ Q)
  | .tup ds => isName value = true ∧ noneIs k (intD l fun i => i = 1 ∧ partT ds u σ Q)
  | .val v => refV v fun a => isName value = true ∧ noneIs l (noneIs u (intD k fun j => j = -1 ∧ ∃ ds, σ a = some (.list ds) ∧ Nat.ble ds.length 1000 = true ∧ ∀ D, σ D = none → Q (.val (.ref D)) (σ.set D (.list ds.reverse))))
  | _ => False
section
variable {c : Cx} {w : World} {env : Env} {vars : Vars} {σ : Sto} {D : Nat} {sc : List (Str × NameKind)}
theorem ev_opt {e : Option Expr} {Q : Dat → Sto → Prop} (h : match e with | none => Q (.val .none) σ | some e => Ev c w env vars σ (eval e env) Q) : Ev c w env vars σ (valueOrNone (evalOpt e env)) Q := by
  cases e with
  | none => exact fun s m led I => wpAny_pure (PostG.here I (.val _) h)
  | some e => exact h
theorem sub_slice {lo hi st : Option Expr} {p : Pos} {o i : Value} : ∃ ops, subscripted (.Slice lo hi st p) false o i = operate ops (getItem o i) := by
  cases st with
  | none => exact ⟨_, rfl⟩
  | some e => exact ⟨_, rfl⟩
theorem sub_sliceN {lo hi : Option Expr} {p : Pos} {o i : Value} : subscripted (.Slice lo hi none p) false o i = operate [i, o] (getItem o i) := rfl
@[elab_as_elim] theorem noneX_ok {v : Value} {X : Prop} {P : Value → Prop} (h : noneX v X) (k : X → P .none) : P v := by
  cases v with
  | none => exact k h
  | _ => exact False.elim h
theorem st_none {st : Option Expr} {k : Dat} {X P : Prop} (hst : st = none ∨ ∃ e, st = some e ∧ k = .int (-1)) (h : noneIs k X) (q : st = none → P) : P := by
  rcases hst with e | ⟨_, _, e⟩
  · exact q e
  · subst e; exact False.elim h
theorem op_slice (K : c.Ok w D) {value : Expr} {lo hi st : Option Expr} {p : Pos} {Q : Dat → Sto → Prop} {s : Shared} {m : Str → Option Value} {led : Led} {v1 v2 v3 v4 : Value} {o l u k : Dat} (hst : st = none ∨ ∃ e, st = some e ∧ k = .int (-1)) (h : sliceD value o l u k σ Q)
    (I : Inv c w env s.heap m led σ vars) (Ro : RV w led v1 o) (Rl : RV w led v2 l) (Ru : RV w led v3 u) (Rk : RV w led v4 k) :
    wpAny (model c.prog w) c.A (subscriptTail value (.Slice lo hi st p) v1 (.ref s.heap.objs.size)) (PostG c w env vars (RV w) m led σ s Q) Never { s with heap := s.heap.push { cls := .type "slice", data := .fields #[v2, v3, v4] } } := by
  have low : ∀ p ∈ led, p.1 < s.heap.objs.size + 1 := fun p hp => Nat.lt_succ_of_lt (I.low p hp)
  cases Ro with
  | str x t =>
    refine st_none hst h fun e => ?_
    subst e
    refine noneIs_ok h Rk fun h => ?_
    obtain ⟨hz, h⟩ := h
    have hz : x.length ≤ sizeLine := by rw [sizeLine_eq]; omega
    refine intD_ok h Ru fun j t h => ?_
    cases Rl with
    | int i t => exact slice_strN_ss I.F I.N (fun h' t' tk F' N' => mkG (I.next F' N' I.nd I.rs .rfl) .rfl (.str _ t') h) sub_sliceN goStr hz
    | val v => exact noneX_ok h fun h => slice_strN_ns I.F I.N (fun h' t' tk F' N' => mkG (I.next F' N' I.nd I.rs .rfl) .rfl (.str _ t') h) sub_sliceN goStr hz
    | _ => exact False.elim h
  | tup T r =>
    obtain ⟨hn, h⟩ := h
    refine st_none hst h fun e => ?_
    subst e
    refine noneIs_ok h Rk fun h => intD_ok h Rl fun i t h => ?_
    obtain ⟨rfl, h⟩ := h
    cases Ru with
    | int j t =>
      obtain ⟨ej, h8⟩ := h
      subst ej
      have T' := T.isTup K I.F I.N
      revert T'
      refine two_ok h8 r fun v d v' e _ _ h T' => ?_
      exact slice_mid I.F I.N T' (fun h' F' N' => mkG (I.push F' N' low) Ext.cons (.tup ⟨0, .inl (.head _)⟩ .nil) h) sub_sliceN (goName hn)
    | val v =>
      refine noneX_ok h fun h => ?_
      cases r with
      | nil => exact False.elim h
      | cons a r =>
        exact slice_tuple_from (a := 1) I.F I.N (T.isTup K I.F I.N) (by decide) (by rw [List.size_toArray, List.length_cons]; exact Nat.le_add_left 1 _) (fun h' F' N' => mkG (I.push F' N' low) Ext.cons (.tup ⟨0, .inl (.head _)⟩ (r.im (.of fun _ h => .tail _ h))) h.2) sub_sliceN (goName hn) (by rw [List.size_toArray, List.length_cons, r.len, sizeLine_eq]; have := Nat.ble_eq.mp h.1; omega)
    | _ => exact False.elim h
  | val v =>
    refine refV_is h fun a h => ?_
    obtain ⟨hn, h⟩ := h
    refine noneIs_ok h Rl fun h => noneIs_ok h Ru fun h => intD_ok h Rk fun j t h => ?_
    obtain ⟨rfl, ds, el, hz, q⟩ := h
    obtain ⟨ob, ho, vs, n, rfl, r⟩ := I.rs _ _ el
    obtain ⟨ops, eo⟩ := sub_slice (lo := lo) (hi := hi) (st := st) (p := p) (o := .ref a) (i := .ref s.heap.objs.size)
    exact krv_lit (zs := vs.reverse) I.F I.N (I.N.isList ho) (IsPart.int _ _) (by simp) (fun D h' F' N' f => mkG (I.pushM (mo := .list ds.reverse) F' N' f ⟨_, 0, rfl, r.rev.im (.of fun _ h => .tail _ h)⟩) (Ext.new f) (.val _) (q D (I.rs.fresh f))) eo (goName hn) (by rw [List.size_toArray, r.len, sizeLine_eq]; have := Nat.ble_eq.mp hz; omega)
  | _ => exact False.elim h
theorem ev_slice (K : c.Ok w D) {value : Expr} {lo hi st : Option Expr} {p pos : Pos} {Q : Dat → Sto → Prop}
    (h : Ev c w env vars σ (eval value env) fun o σ1 => Ev c w env vars σ1 (valueOrNone (evalOpt lo env)) fun l σ2 => Ev c w env vars σ2 (valueOrNone (evalOpt hi env)) fun u σ3 => Ev c w env vars σ3 (valueOrNone (evalOpt st env)) fun k σ4 =>
      (st = none ∨ ∃ e, st = some e ∧ k = .int (-1)) ∧ sliceD value o l u k σ4 Q) : Ev c w env vars σ (eval (.Subscript value (.Slice lo hi st p) pos) env) Q := by
  intro s m led I
  refine Subscript_ (bndG (h s m led I) ?_)
  intro v1 o σ1 led1 h1 tk1 I1 X1 R1 q1
  rw [arm_eval_Slice]
  refine wpAny_bind (bndG (q1 _ m led1 I1) ?_)
  intro v2 l σ2 led2 h2 tk2 I2 X2 R2 q2
  refine wpAny_bind (wpAny_holding (bndG (q2 _ m led2 I2) ?_))
  intro v3 u σ3 led3 h3 tk3 I3 X3 R3 q3
  refine wpAny_bind (wpAny_holding (bndG (q3 _ m led3 I3) ?_))
  intro v4 k σ4 led4 h4 tk4 I4 X4 R4 q4
  refine wpAny_newObj_type ?_
  exact (((X1.trans X2).trans X3).trans X4).on (op_slice (s := { s with heap := h4, toks := tk4 }) K q4.1 q4.2 I4 (R1.ext ((X2.trans X3).trans X4) I1.rs I1.nd) (R2.ext (X3.trans X4) I2.rs I2.nd) (R3.ext X4 I3.rs I3.nd) R4)
end
end
section
set_option backward.match.sparseCases false
theorem none_no {α : Type} {x : α} {P : Prop} (h : none = some x) : P := by cases h
noncomputable def constStr (c : Const) : Option Str := match c with | .str x => some x | _ => none
noncomputable def exprStr (e : Expr) : Option Str := match e with | .Constant c _ _ => constStr c | _ => none
noncomputable def keyOf (k : Option Expr) : Option Str := match k with | some e => exprStr e | none => none
theorem keyOf_is {ke : Option Expr} {x : Str} (h : keyOf ke = some x) : ∃ k p, ke = some (.Constant (.str x) k p) := by
  cases ke with
  | none => exact none_no h
  | some e =>
    cases e with
    | Constant c k p =>
      cases c with
      | str y => cases h; exact ⟨k, p, rfl⟩
      | _ => exact none_no (show (none : Option Str) = some x from h)
    | _ => exact none_no (show (none : Option Str) = some x from h)
/-- the keys of a display, all texts -/
noncomputable def dictKeys : List (Option Expr) → Option (List Str)
  | [] => some []
  | k :: r => match keyOf k with
    | some x => match dictKeys r with | some l => some (x :: l) | none => none
    | none => none
inductive RPs (w : World) (led : Led) : List (Value × Value) → List (Str × Dat) → Prop
  | nil : RPs w led [] []
  | cons {x : Str} {t : Tok} {v : Value} {d : Dat} {vs : List (Value × Value)} {ds : List (Str × Dat)} : RV w led v d → RPs w led vs ds → RPs w led ((.str x t, v) :: vs) ((x, d) :: ds)
theorem RPs.im {w : World} {l l' : Led} (s : Im l l') {vs : List (Value × Value)} {ds : List (Str × Dat)} (h : RPs w l vs ds) : RPs w l' vs ds := by
  induction h with
  | nil => exact .nil
  | cons h _ ih => exact .cons (h.im s) ih
theorem RPs.keys {w : World} {led : Led} : ∀ {vs : List (Value × Value)} {ds : List (Str × Dat)}, RPs w led vs ds → allStrKeys vs = true ∧ RKs w led (strPairs vs) ds ∧ (strPairs vs).map (·.1) = ds.map (·.1)
  | _, _, .nil => ⟨rfl, .nil, rfl⟩
  | _, _, .cons a r => by
    obtain ⟨h1, h2, h3⟩ := r.keys
    refine ⟨h1, .cons a h2, ?_⟩
    show _ :: (strPairs _).map (·.1) = _ :: _
    rw [h3]
noncomputable def mergeD (l : List (Str × Dat)) : List (Str × Dat) → List (Str × Dat)
  | [] => l
  | p :: r => mergeD (refSet.putD l p.1 p.2) r
theorem RKs.merge {w : World} {led : Led} : ∀ {es' : List (Str × Value)} {fs' : List (Str × Dat)} {es : List (Str × Value)} {fs : List (Str × Dat)}, RKs w led es fs → RKs w led es' fs' → RKs w led (merged es es') (mergeD fs fs')
  | _, _, _, _, h, .nil => h
  | _, _, _, _, h, .cons a r => (h.put a).merge r
/-- a ref that is a dict of the run's own -/
noncomputable abbrev RVd (w : World) (led : Led) (v : Value) (d : Dat) : Prop := RV w led v d ∧ ∃ a, v = .ref a ∧ (a == sysModules) = false
section
variable {c : Cx} {w : World} {env : Env} {vars : Vars} {σ : Sto} {D : Nat} {sc : List (Str × NameKind)}
theorem ps_nil {pos : Pos} {Q : List (Str × Dat) → Sto → Prop} (h : Q [] σ) : EvG c w env vars (RPs w) σ (evalPairs (pairTrees [] [] env pos)) Q := fun s m led I => pairTrees_nil_walk (PostG.here I .nil h)
theorem ps_cons {x : Str} {k : Nat} {p pos : Pos} {ks : List (Option Expr)} {v : Expr} {vs : List Expr} {Q : List (Str × Dat) → Sto → Prop}
    (h : Ev c w env vars σ (eval v env) fun d σ1 => EvG c w env vars (RPs w) σ1 (evalPairs (pairTrees ks vs env pos)) fun ds σ2 => Q ((x, d) :: ds) σ2) : EvG c w env vars (RPs w) σ (evalPairs (pairTrees (some (.Constant (.str x) k p) :: ks) (v :: vs) env pos)) Q := by
  intro s m led I
  refine pairTrees_cons_walk (Calls.Constant_str (bndG (h { s with toks := s.toks + 1 } m led I) ?_))
  intro v1 d σ1 led1 h1 tk1 I1 X1 R1 q1
  refine bndG (q1 _ m led1 I1) ?_
  intro r ds σ2 led2 h2 tk2 I2 X2 R2 q2
  exact mkG (b := (x, d) :: ds) I2 (X1.trans X2) (.cons (R1.ext X2 I1.rs I1.nd) R2) q2
theorem strLits_of : ∀ {keys : List (Option Expr)} {ks : List Str}, dictKeys keys = some ks → strLits keys = true ∧ keys.all (·.isSome) = true ∧ keys.length = ks.length
  | [], ks, h => by cases h; exact ⟨rfl, rfl, rfl⟩
  | k :: r, ks, h => by
    unfold dictKeys at h
    cases e : keyOf k with
    | none => rw [e] at h; cases h
    | some x =>
      rw [e] at h
      obtain ⟨_, _, rfl⟩ := keyOf_is e
      cases e2 : dictKeys r with
      | none => rw [e2] at h; cases h
      | some l =>
        rw [e2] at h
        cases h
        obtain ⟨h1, h2, h3⟩ := strLits_of e2
        exact ⟨h1, by rw [List.all_cons, h2]; rfl, congrArg (· + 1) h3⟩
theorem ev_dictG (K : c.Ok w D) {keys : List (Option Expr)} {values : List Expr} {ks : List Str} {pos : Pos} {Q : Dat → Sto → Prop} (hk : dictKeys keys = some ks) (hl : Nat.beq keys.length values.length = true) (h0 : Nat.ble 1 keys.length = true) (h15 : Nat.ble keys.length 15 = true)
    (h : EvG c w env vars (RPs w) σ (evalPairs (pairTrees keys values env pos)) fun ds σ1 => onceS (ds.map (·.1)) = true ∧ ∀ D, σ1 D = none → Q (.val (.ref D)) (σ1.set D (.dict ds))) :
    EvG c w env vars (RVd w) σ (eval (.Dict keys values pos) env) Q := by
  intro s m led I
  obtain ⟨k1, k2, _⟩ := strLits_of hk
  refine kdn_str k1 I.F I.N K.T.nolimit k2 (Nat.eq_of_beq_eq_true hl) (fun e => by rw [e] at h0; cases h0) (Nat.ble_eq.mp h15) fun d h' o F' N' f lo hd => ?_
  have I0 := I.push F' N' f
  refine bndG (h { s with heap := h' } m _ I0) ?_
  intro vs ds σ1 led1 h1 tk1 I1 X1 R1 q1
  obtain ⟨hu, q1⟩ := q1
  obtain ⟨a1, a2, a3⟩ := R1.keys
  have edn : σ d = none := I.rs.fresh f
  obtain ⟨hm, hn⟩ := X1.at (.head _) edn
  have M : Mut o := .of_cls (.inr (dict_cls hd))
  refine kdn_made_str (s := { s with heap := h1, toks := tk1 }) I1.F I1.N (updF_of hm I1.nd) hd a1 (by rw [a3]; exact onceS_ok hu) fun h2 o2 F2 N2 d2 => ?_
  have im : Im led1 (lset led1 d o2) := im_lset hm I1.nd M
  have X : Ext σ led (σ1.set d (.dict ds)) (lset led1 d o2) := fun a ob h e =>
    have z := X1 a ob (.tail _ h) e
    have ne : a ≠ d := Nat.ne_of_lt (f _ h)
    ⟨lset_other z.1 ne, (Sto.set_ne ne).trans z.2⟩
  exact mkG (b := .val (.ref d)) (I.next F2 N2 (lset_nd I1.nd) (I1.rs.set I1.nd hm M (mo := .dict ds) ⟨dict_cls d2, _, TD.of d2, a2⟩) X) X ⟨.val _, d, rfl, lo⟩ (q1 d hn)
theorem EvG.weak {α β : Type} {RR RR' : Led → α → β → Prop} {t : Sem α} {Q : β → Sto → Prop} (h : EvG c w env vars RR σ t Q) (q : ∀ led a b, RR led a b → RR' led a b) : EvG c w env vars RR' σ t Q :=
  fun s m led I => bndG (h s m led I) fun _ _ _ _ _ _ I X R z => mkG I X (q _ _ _ R) z
theorem merged_len : ∀ {more kvs : List (Str × Value)}, (merged kvs more).length ≤ kvs.length + more.length
  | [], _ => Nat.le_refl _
  | p :: r, kvs => by
    have h := @merged_len r (stored kvs p.1 p.2)
    have h2 : (stored kvs p.1 p.2).length ≤ kvs.length + 1 := by
      unfold stored
      split
      · rw [List.length_map]; exact Nat.le_succ _
      · rw [List.length_append]; exact Nat.le_refl _
    show (merged (stored kvs p.1 p.2) r).length ≤ _
    rw [List.length_cons]; omega
/-- a dict told more by a display -/
theorem ev_update (K : c.Ok w D) {o : Expr} {keys : List (Option Expr)} {values : List Expr} {ks : List Str} {dp apos pos : Pos} {Q : Dat → Sto → Prop} (h1 : plainBase o = true) (h2 : Nat.beq apos.endLine pos.line = true)
    (h : Ev c w env vars σ (eval o env) fun d σ1 => ∃ a l, d = .val (.ref a) ∧ σ1 a = some (.dict l) ∧ EvG c w env vars (RVd w) σ1 (eval (.Dict keys values dp) env) fun x σ2 => ∃ b l1 l2, x = .val (.ref b) ∧ σ2 a = some (.dict l1) ∧ σ2 b = some (.dict l2) ∧ a ≠ b ∧ l1.length + l2.length ≤ 100 ∧ Q (.val .none) (σ2.set a (.dict (mergeD l1 l2)))) :
    Ev c w env vars σ (eval (.Call (.Attribute o "update" apos) [.Dict keys values dp] [] pos) env) Q := by
  intro s m led I
  refine MethodCall_ (pl := do return (← importBound o env).getD true) (bndG (h s m led I) ?_) (meth_eq h1 h2 rfl rfl)
  intro v d σ1 led1 h1' tk1 I1 X1 R1 q1
  obtain ⟨a, l, rfl, el, q1⟩ := q1
  cases R1
  obtain ⟨od, hod, hcl, kvs, hT, rk⟩ := I1.rs _ _ el
  have hD := kda_dict (s := { s with heap := h1', toks := tk1 }) I1.N hod (hT c.prog)
  refine getMethod_builtin (s := { s with heap := h1', toks := tk1 }) hD.typeIs PySem.F.plainAttrs_dict PySem.F.slot_dict_update PySem.F.type_dict_update hD.mapOf.noDict ?_
  refine callWith_of (P := (KK w).In) rfl (keepsV (.inr (.inl ⟨_, rfl⟩)) _) (evalArgs_ev rfl (args_cons (bndG (q1 _ m led1 I1) ?_) rfl))
  intro x dx σ2 led2 h2' tk2 I2 X2 RR9 q2
  obtain ⟨R2, b0, e0, lo⟩ := RR9
  obtain ⟨b, l1, l2, rfl, e1, e2, ne, hz, q2⟩ := q2
  cases R2
  have e0' : b = b0 := by cases e0; rfl
  subst e0'
  refine args_nil ⟨K.X.keeps I2.F.keep, ?_⟩
  obtain ⟨o1, ho1, hcl1, kv1, hT1, rk1⟩ := I2.rs _ _ e1
  obtain ⟨o2, ho2, hcl2, kv2, hT2, rk2⟩ := I2.rs _ _ e2
  have M : Mut o1 := .of_cls (.inr hcl1)
  have D1 : Heap.DictOf (PySem.strKind c.prog w) h2' a kv1 := kda_dict (s := { s with heap := h2', toks := tk2 }) I2.N ho1 (hT1 c.prog)
  have D2 : Heap.DictOf (PySem.strKind c.prog w) h2' b kv2 := kda_dict (s := { s with heap := h2', toks := tk2 }) I2.N ho2 (hT2 c.prog)
  refine call_meetsIn (s := { s with heap := h2', toks := tk2 }) PySem.F.slot_dict_update D1.typeIs PySem.F.entry_dict_update (PySem.F.args_dict_update_2 _ _) (meets_dict_update (PySem.strKind c.prog w) a b ne lo) ⟨kv1, kv2, D1, D2, by rw [rk1.len, rk2.len, sizeLine_eq]; omega, fun h' x _ hs => ?_⟩
  obtain ⟨o', ho', hd'⟩ := Heap.dictOf_iff.mp x
  have z := I2.N _ ho1
  have N' : News c.h0 c.L h' (lset led2 a o') := news_lset I2.N ho1 ho' fun b ob q e => hs.extBut _ _ q e
  exact mkG (b := .val .none) (I2.lset e1 nh_dict (I2.F.change hs z.2.1 z.2.2) N' (mo := .dict (mergeD l1 l2)) ⟨dict_cls hd', _, TD.of hd', rk1.merge rk2⟩) ((X1.trans X2).trans (Ext.set e1 nh_dict)) (.val _) q2
/-- one sign of a text? -/
noncomputable def natIn (x : Nat) : List Nat → Bool
  | [] => false
  | y :: r => match Nat.beq x y with | true => true | false => natIn x r
theorem natIn_is {x : Nat} : ∀ {l : List Nat}, natIn x l = decide (x ∈ l)
  | [] => rfl
  | y :: r => by
    unfold natIn
    cases q : Nat.beq x y with
    | true => exact (decide_eq_true (Nat.eq_of_beq_eq_true q ▸ .head _)).symm
    | false =>
      refine natIn_is.trans ?_
      cases z : decide (x ∈ r) with
      | true => exact (decide_eq_true (List.mem_cons_of_mem _ (show x ∈ r from of_decide_eq_true z))).symm
      | false => exact (decide_eq_false fun h => (List.mem_cons.mp h).elim (fun e => by rw [e, Nat.beq_refl y] at q; cases q) (of_decide_eq_false z)).symm
noncomputable def oneSign (l : List Nat) (K : Nat → Prop) : Prop := match l with | [] => False | c :: r => match r with | [] => K c | _ :: _ => False
noncomputable def inD (a b : Dat) (σ : Sto) (Q : Dat → Sto → Prop) : Prop := strD a fun x => strD b fun y => oneSign x.cps.toList fun cp => Q (.val (.bool (natIn cp y.cps.toList))) σ
theorem oneSign_ok {x : Str} {K : Nat → Prop} {P : Prop} (h : oneSign x.cps.toList K) (k : ∀ cp, x = ⟨#[cp]⟩ → K cp → P) : P := by
  obtain ⟨cs⟩ := x
  obtain ⟨l⟩ := cs
  cases l with
  | nil => exact False.elim h
  | cons cp r =>
    cases r with
    | nil => exact k cp rfl h
    | cons => exact False.elim h
theorem op_in {a b : Dat} {Q : Dat → Sto → Prop} (h : inD a b σ Q) : Op2 c w env vars σ (compareOp .In) a b Q := fun s m led u v I Ru Rv =>
  strD_ok h Ru fun x t h => strD_ok h Rv fun y t' h => oneSign_ok h fun cp e h => by
    subst e
    exact P.in_str (by rw [StrLaws.found_one, ← natIn_is]; exact PostG.here I (.val _) h)
/-- two comparisons in a row -/
theorem ev_chain2 {l r1 r2 : Expr} {o1 o2 : CmpOp} {pos : Pos} {Q : Dat → Sto → Prop} (hm : lastMarks [o1, o2] [r1, r2] = false)
    (h : Ev c w env vars σ (eval l env) fun a σ1 => Ev c w env vars σ1 (eval r1 env) fun b σ2 => Op2 c w env vars σ2 (compareOp o1) a b fun t σ3 => Op1 c w env vars (fun _ b b' => b = b') σ3 truthy t fun y σ4 =>
      if y = true then Ev c w env vars σ4 (eval r2 env) fun d σ5 => Op2 c w env vars σ5 (compareOp o2) b d Q else Q t σ4) : Ev c w env vars σ (eval (.Compare l [o1, o2] [r1, r2] pos) env) Q := by
  intro s m led I
  refine Compare_chain (bndG (h s m led I) ?_) hm
  intro v1 a σ1 led1 h1 tk1 I1 X1 R1 q1
  refine chain_link (bndG (q1 _ m led1 I1) ?_)
  intro v2 b σ2 led2 h2 tk2 I2 X2 R2 q2
  refine bndG (q2 _ m led2 v1 v2 I2 (R1.ext X2 I1.rs I1.nd) R2) ?_
  intro v3 t σ3 led3 h3 tk3 I3 X3 R3 q3
  refine bndB (q3 _ m led3 v3 I3 R3) ?_
  intro y σ4 led4 h4 tk4 I4 X4 q4
  cases y with
  | false => exact mkG (b := t) I4 (((X1.trans X2).trans X3).trans X4) (R3.ext X4 I3.rs I3.nd) q4
  | true =>
    refine chain_last (bndG (q4 _ m led4 I4) ?_)
    intro v5 d σ5 led5 h5 tk5 I5 X5 R5 q5
    exact ((((X1.trans X2).trans X3).trans X4).trans X5).on (q5 _ m led5 v2 v5 I5 (((R2.ext X3 I2.rs I2.nd).ext X4 I3.rs I3.nd).ext X5 I4.rs I4.nd) R5)
theorem ev_tchain2 {l r1 r2 : Expr} {o1 o2 : CmpOp} {pos : Pos} {whole : Sem Value} {Q : Bool → Sto → Prop} (hm : lastMarks [o1, o2] [r1, r2] = false)
    (h : Ev c w env vars σ (eval l env) fun a σ1 => Ev c w env vars σ1 (eval r1 env) fun b σ2 => Op2 c w env vars σ2 (compareOp o1) a b fun t σ3 => Op1 c w env vars (fun _ b b' => b = b') σ3 truthy t fun y σ4 =>
      if y = true then Ev c w env vars σ4 (eval r2 env) fun d σ5 => Op2 c w env vars σ5 (compareOp o2) b d fun z σ6 => Op1 c w env vars (fun _ b b' => b = b') σ6 truthy z Q else Q false σ4) : EvB c w env vars σ (isTrue (.Compare l [o1, o2] [r1, r2] pos) env whole) Q := by
  intro s m led I
  refine isTrue_chain (bndG (h s m led I) ?_) hm
  intro v1 a σ1 led1 h1 tk1 I1 X1 R1 q1
  refine test_link (bndG (q1 _ m led1 I1) ?_)
  intro v2 b σ2 led2 h2 tk2 I2 X2 R2 q2
  refine bndG (q2 _ m led2 v1 v2 I2 (R1.ext X2 I1.rs I1.nd) R2) ?_
  intro v3 t σ3 led3 h3 tk3 I3 X3 R3 q3
  refine bndB (q3 _ m led3 v3 I3 R3) ?_
  intro y σ4 led4 h4 tk4 I4 X4 q4
  cases y with
  | false => exact mkG (b := false) I4 (((X1.trans X2).trans X3).trans X4) rfl q4
  | true =>
    refine test_last (bndG (q4 _ m led4 I4) ?_)
    intro v5 d σ5 led5 h5 tk5 I5 X5 R5 q5
    refine bndG (q5 _ m led5 v2 v5 I5 (((R2.ext X3 I2.rs I2.nd).ext X4 I3.rs I3.nd).ext X5 I4.rs I4.nd) R5) ?_
    intro v6 z σ6 led6 h6 tk6 I6 X6 R6 q6
    exact (((((X1.trans X2).trans X3).trans X4).trans X5).trans X6).on (q6 _ m led6 v6 I6 R6)
end
end
section
set_option backward.match.sparseCases false
structure Sc where
  fn : Bool
  l : List (Str × NameKind)
structure Tabs where
  g : List (Str × Dat)
  f : List (Str × Addr)
  b : List (Str × Bi)
  a : Addr → Str → Bool
  m : Addr → Str → Option Addr
structure Tabs.Ok (T : Tabs) (w : World) : Prop where
  g : ∀ {x d}, look T.g x = some d → GlobIs w x d
  f : ∀ {x a}, look T.f x = some a → GlobIs w x (.val (.ref a)) ∧ KeepsV w (.ref a)
  b : ∀ {x b}, look T.b x = some b → GlobIs w x (.val b.val)
  a : ∀ {C n}, T.a C n = true → AtrOk w C n
  m : ∀ {C n f}, T.m C n = some f → MetOk w C n f ∧ KeepsV w (.ref f)
structure W where
  e : Sc → Vars → Sto → Expr → (Dat → Sto → Prop) → Prop
  t : Sc → Vars → Sto → Expr → (Bool → Sto → Prop) → Prop
  s : List (Str × NameKind) → Vars → Sto → Stmt → (Fl → Vars → Sto → Prop) → Prop
/-- a branch -/
structure brn (b : Bool) (X Y : Prop) : Prop where
  t : b = true → X
  f : b = false → Y
theorem brn_t {X Y : Prop} (h : X) : brn true X Y := ⟨fun _ => h, fun e => (nomatch e)⟩
theorem brn_f {X Y : Prop} (h : Y) : brn false X Y := ⟨fun e => (nomatch e), fun _ => h⟩
theorem brn_ {b : Bool} {X Y : Prop} (h1 : b = true → X) (h2 : b = false → Y) : brn b X Y := ⟨h1, h2⟩
noncomputable def isG (o : Option NameKind) : Bool := match o with | some k => (match k with | .globalImplicit => true | _ => false) | none => false
theorem isG_is {o : Option NameKind} (h : isG o = true) : o = some .globalImplicit := by
  cases o with
  | none => cases h
  | some k => cases k <;> first | rfl | cases h
/-- arguments -/
noncomputable def consK (d : Dat) (Q : List Dat → Sto → Prop) : List Dat → Sto → Prop := fun ds σ => Q (d :: ds) σ
noncomputable def argK (ih : Sto → (List Dat → Sto → Prop) → Prop) (Q : List Dat → Sto → Prop) : Dat → Sto → Prop := fun d σ => ih σ (consK d Q)
noncomputable def wpLn : Sto → (List Dat → Sto → Prop) → Prop := fun σ Q => Q [] σ
noncomputable def wpLc (k : W) (sc : Sc) (v : Vars) (e : Expr) (_ : List Expr) (ih : Sto → (List Dat → Sto → Prop) → Prop) : Sto → (List Dat → Sto → Prop) → Prop := fun σ Q => k.e sc v σ e (argK ih Q)
noncomputable def wpL (k : W) (sc : Sc) (v : Vars) (es : List Expr) : Sto → (List Dat → Sto → Prop) → Prop :=
  List.rec (motive := fun _ => Sto → (List Dat → Sto → Prop) → Prop) wpLn (wpLc k sc v) es
/-- statements -/
noncomputable def seqK (ih : Vars → Sto → (Fl → Vars → Sto → Prop) → Prop) (K : Fl → Vars → Sto → Prop) : Fl → Vars → Sto → Prop := fun f v σ => match f with
  | .next => ih v σ K
  | .brk => K .brk v σ
  | .cont => K .cont v σ
  | .ret d => K (.ret d) v σ
noncomputable def wpBn : Vars → Sto → (Fl → Vars → Sto → Prop) → Prop := fun v σ K => K .next v σ
noncomputable def wpBc (k : W) (sc : List (Str × NameKind)) (t : Stmt) (_ : List Stmt) (ih : Vars → Sto → (Fl → Vars → Sto → Prop) → Prop) : Vars → Sto → (Fl → Vars → Sto → Prop) → Prop := fun v σ K => k.s sc v σ t (seqK ih K)
noncomputable def wpB (k : W) (sc : List (Str × NameKind)) (ts : List Stmt) : Vars → Sto → (Fl → Vars → Sto → Prop) → Prop :=
  List.rec (motive := fun _ => Vars → Sto → (Fl → Vars → Sto → Prop) → Prop) wpBn (wpBc k sc) ts
/-- stores -/
noncomputable def instD (T : Tabs) (n : Str) (a : Dat) (X : Dat → Prop) : Prop := match a with
  | .inst x C da => tru (T.a C n) (X (.inst x C da))
  | _ => False
noncomputable def setK (T : Tabs) (n : Str) (d : Dat) (v : Vars) (K : Vars → Sto → Prop) : Dat → Sto → Prop := fun a σ => instD T n a fun a => setD a n d σ (K v)
noncomputable def itemK2 (a d : Dat) (v : Vars) (K : Vars → Sto → Prop) : Dat → Sto → Prop := fun ix σ => setItemD a ix d σ (K v)
noncomputable def itemK (k : W) (sc : Sc) (i : Expr) (d : Dat) (v : Vars) (K : Vars → Sto → Prop) : Dat → Sto → Prop := fun a σ => k.e sc v σ i (itemK2 a d v K)
noncomputable def wpA1 (T : Tabs) (k : W) (sc : Sc) (t : Expr) (d : Dat) (v : Vars) (σ : Sto) (K : Vars → Sto → Prop) : Prop :=
  match t with
  | .Name x _ => asName sc.l x d v σ K
  | .Attribute o n _ => k.e sc v σ o (setK T n d v K)
  | .Subscript o i _ => k.e sc v σ o (itemK k sc i d v K)
  | _ => False
noncomputable def asK (ih : List Dat → Vars → Sto → (Vars → Sto → Prop) → Prop) (ds : List Dat) (K : Vars → Sto → Prop) : Vars → Sto → Prop := fun v σ => ih ds v σ K
noncomputable def wpAsn : List Dat → Vars → Sto → (Vars → Sto → Prop) → Prop := fun ds v σ K => nul ds (K v σ)
noncomputable def wpAsc (T : Tabs) (k : W) (sc : Sc) (t : Expr) (_ : List Expr) (ih : List Dat → Vars → Sto → (Vars → Sto → Prop) → Prop) : List Dat → Vars → Sto → (Vars → Sto → Prop) → Prop := fun ds v σ K => match ds with
  | d :: ds => wpA1 T k sc t d v σ (asK ih ds K)
  | [] => False
noncomputable def wpAs (T : Tabs) (k : W) (sc : Sc) (ts : List Expr) : List Dat → Vars → Sto → (Vars → Sto → Prop) → Prop :=
  List.rec (motive := fun _ => List Dat → Vars → Sto → (Vars → Sto → Prop) → Prop) wpAsn (wpAsc T k sc) ts
noncomputable def targetsOk : List Expr → Bool
  | [] => true
  | t :: r => match isTarget t with | true => targetsOk r | false => false
noncomputable def partK (T : Tabs) (k : W) (sc : Sc) (es : List Expr) (v : Vars) (σ : Sto) (K : Vars → Sto → Prop) : List Dat → Prop := fun l => tru (Nat.beq es.length l.length) (wpAs T k sc es l v σ K)
noncomputable def wpA (T : Tabs) (k : W) (sc : Sc) (t : Expr) (d : Dat) (v : Vars) (σ : Sto) (K : Vars → Sto → Prop) : Prop :=
  match t with
  | .Tuple es _ _ => tru (targetsOk es) (partsD d σ (partK T k sc es v σ K))
  | t => wpA1 T k sc t d v σ K
/-- for -/
noncomputable def forK (ih : Vars → Sto → Prop) (K : Fl → Vars → Sto → Prop) : Fl → Vars → Sto → Prop := fun f v σ => match f with
  | .next => ih v σ
  | .cont => ih v σ
  | .brk => K .next v σ
  | .ret d => K (.ret d) v σ
noncomputable def forB (k : W) (sc : List (Str × NameKind)) (body : List Stmt) (ih : Vars → Sto → Prop) (K : Fl → Vars → Sto → Prop) : Vars → Sto → Prop := fun v σ => wpB k sc body v σ (forK ih K)
noncomputable def wpForc (T : Tabs) (k : W) (sc : List (Str × NameKind)) (t : Expr) (body : List Stmt) (K : Fl → Vars → Sto → Prop) (d : Dat) (_ : List Dat) (ih : Vars → Sto → Prop) : Vars → Sto → Prop := fun v σ => wpA T k ⟨true, sc⟩ t d v σ (forB k sc body ih K)
noncomputable def wpFor (T : Tabs) (k : W) (sc : List (Str × NameKind)) (t : Expr) (body : List Stmt) (K : Fl → Vars → Sto → Prop) (ds : List Dat) : Vars → Sto → Prop :=
  List.rec (motive := fun _ => Vars → Sto → Prop) (K .next) (wpForc T k sc t body K) ds
/-- a for: its turns one after another, or by an invariant of what is left -/
inductive ForX (T : Tabs) (k : W) (sc : List (Str × NameKind)) (t : Expr) (body : List Stmt) (K : Fl → Vars → Sto → Prop) (ds : List Dat) (v : Vars) (σ : Sto) : Prop
  | un : wpFor T k sc t body K ds v σ → ForX T k sc t body K ds v σ
  | inv (J : List Dat → Vars → Sto → Prop) (v0 : Vars) : SubV v0 v → J ds v0 σ → (∀ v σ, J [] v σ → K .next v σ) → (∀ d ds v σ, J (d :: ds) v σ → wpA T k ⟨true, sc⟩ t d v σ (forB k sc body (fun v1 σ1 => ∃ v', SubV v' v1 ∧ J ds v' σ1) K)) → ForX T k sc t body K ds v σ
/-- comprehensions -/
noncomputable def eltK (ih : List Dat → Sto → Prop) (acc : List Dat) : Dat → Sto → Prop := fun r σ => ih (acc ++ [r]) σ
noncomputable def ifK (k : W) (sc : Sc) (elt : Expr) (ih : List Dat → Sto → Prop) (acc : List Dat) (v : Vars) : Bool → Sto → Prop := fun b σ => brn b (k.e sc v σ elt (eltK ih acc)) (ih acc σ)
noncomputable def compK (k : W) (sc : Sc) (ifs : List Expr) (elt : Expr) (ih : List Dat → Sto → Prop) (acc : List Dat) : Vars → Sto → Prop := fun v σ => match ifs with
  | [] => k.e sc v σ elt (eltK ih acc)
  | c :: r => match r with
    | [] => k.t sc v σ c (ifK k sc elt ih acc v)
    | _ :: _ => False
noncomputable def wpCc (T : Tabs) (k : W) (sc : Sc) (cv : Vars) (t : Expr) (ifs : List Expr) (elt : Expr) (d : Dat) (_ : List Dat) (ih : List Dat → Sto → Prop) : List Dat → Sto → Prop := fun acc σ => wpA T k sc t d cv σ (compK k sc ifs elt ih acc)
noncomputable def wpC (T : Tabs) (k : W) (sc : Sc) (cv : Vars) (t : Expr) (ifs : List Expr) (elt : Expr) (K : List Dat → Sto → Prop) (ds : List Dat) : List Dat → Sto → Prop :=
  List.rec (motive := fun _ => List Dat → Sto → Prop) K (wpCc T k sc cv t ifs elt) ds
inductive CmpX (T : Tabs) (k : W) (sc : Sc) (cv : Vars) (t : Expr) (ifs : List Expr) (elt : Expr) (K : List Dat → Sto → Prop) (ds : List Dat) (σ : Sto) : Prop
  | un : wpC T k sc cv t ifs elt K ds [] σ → CmpX T k sc cv t ifs elt K ds σ
  | inv (J : List Dat → List Dat → Sto → Prop) : J ds [] σ → (∀ acc σ, J [] acc σ → K acc σ) → (∀ d ds acc σ, J (d :: ds) acc σ → wpA T k sc t d cv σ (compK k sc ifs elt (J ds) acc)) → CmpX T k sc cv t ifs elt K ds σ
/-- while -/
noncomputable def whlK (J : Nat → Vars → Sto → Prop) (n : Nat) (K : Fl → Vars → Sto → Prop) : Fl → Vars → Sto → Prop := fun f v1 σ2 => match f with
  | .next => ∃ n' v', n' < n ∧ SubV v' v1 ∧ J n' v' σ2
  | .cont => ∃ n' v', n' < n ∧ SubV v' v1 ∧ J n' v' σ2
  | .brk => K .next v1 σ2
  | .ret d => K (.ret d) v1 σ2
noncomputable def whlT (k : W) (sc : List (Str × NameKind)) (body : List Stmt) (J : Nat → Vars → Sto → Prop) (n : Nat) (v : Vars) (K : Fl → Vars → Sto → Prop) : Bool → Sto → Prop := fun b σ1 => brn b (wpB k sc body v σ1 (whlK J n K)) (K .next v σ1)
structure whileP (k : W) (sc : List (Str × NameKind)) (test : Expr) (body : List Stmt) (K : Fl → Vars → Sto → Prop) (v : Vars) (σ : Sto) : Prop where
  use : ∃ (J : Nat → Vars → Sto → Prop) (n : Nat) (v0 : Vars), (SubV v0 v ∧ J n v0 σ) ∧ ∀ n v σ, J n v σ → k.t ⟨true, sc⟩ v σ test (whlT k sc body J n v K)
theorem whl {k : W} {sc : List (Str × NameKind)} {test : Expr} {body : List Stmt} {K : Fl → Vars → Sto → Prop} {v : Vars} {σ : Sto} (J : Nat → Vars → Sto → Prop) (n : Nat) (v0 : Vars) (h1 : SubV v0 v) (h2 : J n v0 σ) (h3 : ∀ n v σ, J n v σ → k.t ⟨true, sc⟩ v σ test (whlT k sc body J n v K)) : whileP k sc test body K v σ := ⟨J, n, v0, ⟨h1, h2⟩, h3⟩
noncomputable def cmpAll (o : CmpOp) (a b : Dat) (σ : Sto) (Q : Dat → Sto → Prop) : Prop :=
  match o with
  | .In => inD a b σ Q
  | o => cmpop o a b σ Q
/-- and, or -/
noncomputable def bolT (op : BoolOp) (ih : Sto → (Dat → Sto → Prop) → Prop) (a : Dat) (Q : Dat → Sto → Prop) : Bool → Sto → Prop := fun b σ => match op with
  | .And => brn b (ih σ Q) (Q a σ)
  | .Or => brn b (Q a σ) (ih σ Q)
noncomputable def bolK (op : BoolOp) (ih : Sto → (Dat → Sto → Prop) → Prop) (Q : Dat → Sto → Prop) : Dat → Sto → Prop := fun a σ => truthyD a σ (bolT op ih a Q)
noncomputable def wpBooln : Sto → (Dat → Sto → Prop) → Prop := fun _ _ => False
noncomputable def wpBoolc (k : W) (sc : Sc) (v : Vars) (op : BoolOp) (e : Expr) (r : List Expr) (ih : Sto → (Dat → Sto → Prop) → Prop) : Sto → (Dat → Sto → Prop) → Prop := fun σ Q => match r with
  | [] => k.e sc v σ e Q
  | _ :: _ => k.e sc v σ e (bolK op ih Q)
noncomputable def wpBool (k : W) (sc : Sc) (v : Vars) (op : BoolOp) (es : List Expr) : Sto → (Dat → Sto → Prop) → Prop :=
  List.rec (motive := fun _ => Sto → (Dat → Sto → Prop) → Prop) wpBooln (wpBoolc k sc v op) es
noncomputable def tsK (op : BoolOp) (ih : Sto → (Bool → Sto → Prop) → Prop) (Q : Bool → Sto → Prop) : Bool → Sto → Prop := fun b σ => match op with
  | .And => brn b (ih σ Q) (Q false σ)
  | .Or => brn b (Q true σ) (ih σ Q)
noncomputable def wpTsn (op : BoolOp) : Sto → (Bool → Sto → Prop) → Prop := fun σ Q => match op with
  | .And => Q true σ
  | .Or => Q false σ
noncomputable def wpTsc (k : W) (sc : Sc) (v : Vars) (op : BoolOp) (e : Expr) (_ : List Expr) (ih : Sto → (Bool → Sto → Prop) → Prop) : Sto → (Bool → Sto → Prop) → Prop := fun σ Q => k.t sc v σ e (tsK op ih Q)
noncomputable def wpTs (k : W) (sc : Sc) (v : Vars) (op : BoolOp) (es : List Expr) : Sto → (Bool → Sto → Prop) → Prop :=
  List.rec (motive := fun _ => Sto → (Bool → Sto → Prop) → Prop) (wpTsn op) (wpTsc k sc v op) es
/-- dict displays -/
noncomputable def pairK2 (x : Str) (d : Dat) (Q : List (Str × Dat) → Sto → Prop) : List (Str × Dat) → Sto → Prop := fun ds σ => Q ((x, d) :: ds) σ
noncomputable def pairK (ih : List Expr → Sto → (List (Str × Dat) → Sto → Prop) → Prop) (vs : List Expr) (x : Str) (Q : List (Str × Dat) → Sto → Prop) : Dat → Sto → Prop := fun d σ => ih vs σ (pairK2 x d Q)
noncomputable def wpPsn : List Expr → Sto → (List (Str × Dat) → Sto → Prop) → Prop := fun vs σ Q => match vs with
  | [] => Q [] σ
  | _ :: _ => False
noncomputable def wpPsc (k : W) (sc : Sc) (v : Vars) (ke : Option Expr) (_ : List (Option Expr)) (ih : List Expr → Sto → (List (Str × Dat) → Sto → Prop) → Prop) : List Expr → Sto → (List (Str × Dat) → Sto → Prop) → Prop := fun vs σ Q => match vs with
  | e :: vs => som (keyOf ke) fun x => k.e sc v σ e (pairK ih vs x Q)
  | [] => False
noncomputable def wpPs (k : W) (sc : Sc) (v : Vars) (keys : List (Option Expr)) : List Expr → Sto → (List (Str × Dat) → Sto → Prop) → Prop :=
  List.rec (motive := fun _ => List Expr → Sto → (List (Str × Dat) → Sto → Prop) → Prop) wpPsn (wpPsc k sc v) keys
noncomputable def dictK (Q : Dat → Sto → Prop) : List (Str × Dat) → Sto → Prop := fun ds σ => tru (onceS (ds.map (·.1))) (∀ D, σ D = none → Q (.val (.ref D)) (σ.set D (.dict ds)))
noncomputable def wpDict (k : W) (sc : Sc) (v : Vars) (keys : List (Option Expr)) (values : List Expr) (σ : Sto) (Q : Dat → Sto → Prop) : Prop :=
  som (dictKeys keys) fun _ => tru (Nat.beq keys.length values.length && Nat.ble 1 keys.length && Nat.ble keys.length 15) (wpPs k sc v keys values σ (dictK Q))
noncomputable def wpOpt (k : W) (sc : Sc) (v : Vars) (e : Option Expr) (σ : Sto) (Q : Dat → Sto → Prop) : Prop :=
  match e with
  | none => Q (.val .none) σ
  | some e => k.e sc v σ e Q
/-- calls -/
noncomputable def smK (o : Sm) (x : Str) (Q : Dat → Sto → Prop) : List Dat → Sto → Prop := fun ds σ => smD o x ds σ Q
noncomputable def lmK (o : Lm) (a : Addr) (Q : Dat → Sto → Prop) : List Dat → Sto → Prop := fun ds σ => lmD o a ds σ Q
noncomputable def biK (b : Bi) (Q : Dat → Sto → Prop) : List Dat → Sto → Prop := fun ds σ => callBi b ds σ Q
noncomputable def callK (w : World) (D : Nat) (f : Addr) (Q : Dat → Sto → Prop) : List Dat → Sto → Prop := fun ds σ => CallP w D (.ref f) ds σ Q
noncomputable def noName (fs : List (Str × Dat)) (name : Str) : Bool := match look fs name with | none => true | some _ => false
noncomputable def methP (T : Tabs) (w : World) (D : Nat) (k : W) (sc : Sc) (v : Vars) (name : Str) (args : List Expr) (Q : Dat → Sto → Prop) : Dat → Sto → Prop := fun d σ =>
  match d with
  | .str x => som (look smTab name) fun o => wpL k sc v args σ (smK o x Q)
  | .val u => refV u fun a => som (look lmTab name) fun o => (∃ l, σ a = some (.list l)) ∧ wpL k sc v args σ (lmK o a Q)
  | .inst x C da => som (T.m C name) fun f => (∃ fs, σ da = some (.ns fs) ∧ noName fs name = true) ∧ wpL k sc v args σ (consK (.inst x C da) (callK w D f Q))
  | _ => False
noncomputable def dictPair (e : Expr) : Option (List (Option Expr) × List Expr) := match e with | .Dict keys values _ => some (keys, values) | _ => none
noncomputable def isUpdate (name : Str) (args : List Expr) : Option (List (Option Expr) × List Expr) :=
  match sEq name "update" with
  | true => match args with
    | [] => none
    | e :: r => match r with
      | [] => dictPair e
      | _ :: _ => none
  | false => none
noncomputable def updK2 (a : Addr) (Q : Dat → Sto → Prop) : Dat → Sto → Prop := fun x σ2 => ∃ b l1 l2, x = .val (.ref b) ∧ σ2 a = some (.dict l1) ∧ σ2 b = some (.dict l2) ∧ a ≠ b ∧ l1.length + l2.length ≤ 100 ∧ Q (.val .none) (σ2.set a (.dict (mergeD l1 l2)))
noncomputable def updK (k : W) (sc : Sc) (v : Vars) (kv : List (Option Expr) × List Expr) (Q : Dat → Sto → Prop) : Dat → Sto → Prop := fun d σ1 => ∃ a l, d = .val (.ref a) ∧ σ1 a = some (.dict l) ∧ wpDict k sc v kv.1 kv.2 σ1 (updK2 a Q)
noncomputable def wpCall (T : Tabs) (w : World) (D : Nat) (k : W) (sc : Sc) (v : Vars) (σ : Sto) (f : Expr) (args : List Expr) (pos : Pos) (Q : Dat → Sto → Prop) : Prop :=
  match f with
  | .Name x _ => tru (okName x && noStars args && isG (look sc.l x)) (match look T.b x with
      | some b => wpL k sc v args σ (biK b Q)
      | none => som (look T.f x) fun a => wpL k sc v args σ (callK w D a Q))
  | .Attribute o name ap => tru (plainBase o && Nat.beq ap.endLine pos.line && noStars args && Nat.blt args.length 30) (match isUpdate name args with
      | some kv => k.e sc v σ o (updK k sc v kv Q)
      | none => k.e sc v σ o (methP T w D k sc v name args Q))
  | _ => False
noncomputable def accK (K : List Dat → Sto → Prop) (re : Sto → Sto) : List Dat → Sto → Prop := fun acc σ => K acc (re σ)
noncomputable def srcK2 (T : Tabs) (k : W) (v : Vars) (t : Expr) (ifs : List Expr) (elt : Expr) (scope : Scope) (K : List Dat → Sto → Prop) : List Dat → (Sto → Sto) → Sto → Prop := fun ds re σ2 => CmpX T k ⟨false, scope.names⟩ (capV scope.names v) t ifs elt (accK K re) ds σ2
noncomputable def srcK (T : Tabs) (k : W) (v : Vars) (t : Expr) (ifs : List Expr) (elt : Expr) (scope : Scope) (K : List Dat → Sto → Prop) : Dat → Sto → Prop := fun xv σ1 => SrcC xv σ1 (srcK2 T k v t ifs elt scope K)
noncomputable def wpList (T : Tabs) (k : W) (sc : Sc) (v : Vars) (σ : Sto) (elt : Expr) (gs : List Comprehension) (scope : Scope) (K : List Dat → Sto → Prop) : Prop :=
  match gs with
  | [] => False
  | g :: r => match r with
    | [] => tru (decide (g.is_async = 0) && blockOk sc.fn sc.l scope.names && firstsOk scope.names && decide (scope.kind = .function) && !isSet g.iter) (k.e sc v σ g.iter (srcK T k v g.target g.ifs elt scope K))
    | _ :: _ => False
noncomputable def plainTest : Expr → Bool
  | .Name _ _ => true
  | .Call _ _ _ _ => true
  | .Subscript _ _ _ => true
  | .Attribute _ _ _ => true
  | .BinOp _ _ _ _ => true
  | _ => false
noncomputable def notK (Q : Dat → Sto → Prop) : Bool → Sto → Prop := fun b σ => Q (.val (.bool (!b))) σ
noncomputable def unD (op : UnaryOp) (a : Dat) (σ : Sto) (Q : Dat → Sto → Prop) : Prop :=
  match op with
  | .USub => intD a fun i => Q (.int (-i)) σ
  | .Not => truthyD a σ (notK Q)
  | _ => False
noncomputable def constD (c : Const) (K : Dat → Prop) : Prop := match c with
  | .int i => K (.int i)
  | .str x => K (.str x)
  | .bool b => K (.val (.bool b))
  | .none => K (.val .none)
  | _ => False
noncomputable def nameD (T : Tabs) (sc : Sc) (v : Vars) (x : Str) (K : Dat → Prop) : Prop := tru (okName x) (match isG (look sc.l x) with
  | true => som (look T.g x) K
  | false => som (look v x) K)
noncomputable def binK2 (op : Operator) (a : Dat) (Q : Dat → Sto → Prop) : Dat → Sto → Prop := fun b σ => binop op a b σ Q
noncomputable def binK (k : W) (sc : Sc) (v : Vars) (r : Expr) (op : Operator) (Q : Dat → Sto → Prop) : Dat → Sto → Prop := fun a σ => k.e sc v σ r (binK2 op a Q)
noncomputable def unK (op : UnaryOp) (Q : Dat → Sto → Prop) : Dat → Sto → Prop := fun a σ => unD op a σ Q
noncomputable def cmpK2 (o : CmpOp) (a : Dat) (Q : Dat → Sto → Prop) : Dat → Sto → Prop := fun b σ => cmpAll o a b σ Q
noncomputable def cmpK (k : W) (sc : Sc) (v : Vars) (r : Expr) (o : CmpOp) (Q : Dat → Sto → Prop) : Dat → Sto → Prop := fun a σ => k.e sc v σ r (cmpK2 o a Q)
noncomputable def truK (Q : Bool → Sto → Prop) : Dat → Sto → Prop := fun d σ => truthyD d σ Q
noncomputable def chnT (k : W) (sc : Sc) (v : Vars) (r2 : Expr) (o2 : CmpOp) (b t : Dat) (Q : Dat → Sto → Prop) (F : Sto → Prop) : Bool → Sto → Prop := fun y σ => brn y (k.e sc v σ r2 (cmpK2 o2 b Q)) (F σ)
/-- the second link of a chain: what stands where the first fails is told by F -/
noncomputable def chnK3 (k : W) (sc : Sc) (v : Vars) (r2 : Expr) (o2 : CmpOp) (b : Dat) (Q : Dat → Sto → Prop) (F : Dat → Sto → Prop) : Dat → Sto → Prop := fun t σ => truthyD t σ (chnT k sc v r2 o2 b t Q (F t))
noncomputable def chnK2 (k : W) (sc : Sc) (v : Vars) (r2 : Expr) (o1 o2 : CmpOp) (a : Dat) (Q : Dat → Sto → Prop) (F : Dat → Sto → Prop) : Dat → Sto → Prop := fun b σ => cmpAll o1 a b σ (chnK3 k sc v r2 o2 b Q F)
noncomputable def chnK (k : W) (sc : Sc) (v : Vars) (r1 r2 : Expr) (o1 o2 : CmpOp) (Q : Dat → Sto → Prop) (F : Dat → Sto → Prop) : Dat → Sto → Prop := fun a σ => k.e sc v σ r1 (chnK2 k sc v r2 o1 o2 a Q F)
noncomputable def wpCmp (k : W) (sc : Sc) (v : Vars) (σ : Sto) (l : Expr) (ops : List CmpOp) (rs : List Expr) (Q : Dat → Sto → Prop) (F : Dat → Sto → Prop) : Prop :=
  match ops with
  | [] => False
  | o1 :: os => match rs with
    | [] => False
    | r1 :: rr => match os with
      | [] => match rr with
        | [] => tru (!behindInMarks o1 r1) (k.e sc v σ l (cmpK k sc v r1 o1 Q))
        | _ :: _ => False
      | o2 :: os => match os with
        | [] => match rr with
          | [] => False
          | r2 :: rr => match rr with
            | [] => tru (!lastMarks [o1, o2] [r1, r2]) (k.e sc v σ l (chnK k sc v r1 r2 o1 o2 Q F))
            | _ :: _ => False
        | _ :: _ => False
noncomputable def ifeK (k : W) (sc : Sc) (v : Vars) (a b : Expr) (Q : Dat → Sto → Prop) : Bool → Sto → Prop := fun x σ => brn x (k.e sc v σ a Q) (k.e sc v σ b Q)
noncomputable def tupK (Q : Dat → Sto → Prop) : List Dat → Sto → Prop := fun ds σ => tru (Nat.ble ds.length 1000) (Q (.tup ds) σ)
noncomputable def newK (Q : Dat → Sto → Prop) : List Dat → Sto → Prop := fun ds σ => ∀ D, σ D = none → Q (.val (.ref D)) (σ.set D (.list ds))
noncomputable def lstK (Q : Dat → Sto → Prop) : List Dat → Sto → Prop := fun ds σ => tru (Nat.ble ds.length 1000) (newK Q ds σ)
noncomputable def atrK (T : Tabs) (n : Str) (Q : Dat → Sto → Prop) : Dat → Sto → Prop := fun a σ => instD T n a fun a => attrD a n σ Q
noncomputable def slcK4 (x : Expr) (st : Option Expr) (o l u : Dat) (Q : Dat → Sto → Prop) : Dat → Sto → Prop := fun z σ => (st = none ∨ ∃ e, st = some e ∧ z = .int (-1)) ∧ sliceD x o l u z σ Q
noncomputable def slcK3 (k : W) (sc : Sc) (v : Vars) (x : Expr) (st : Option Expr) (o l : Dat) (Q : Dat → Sto → Prop) : Dat → Sto → Prop := fun u σ => wpOpt k sc v st σ (slcK4 x st o l u Q)
noncomputable def slcK2 (k : W) (sc : Sc) (v : Vars) (x : Expr) (hi st : Option Expr) (o : Dat) (Q : Dat → Sto → Prop) : Dat → Sto → Prop := fun l σ => wpOpt k sc v hi σ (slcK3 k sc v x st o l Q)
noncomputable def slcK (k : W) (sc : Sc) (v : Vars) (x : Expr) (lo hi st : Option Expr) (Q : Dat → Sto → Prop) : Dat → Sto → Prop := fun o σ => wpOpt k sc v lo σ (slcK2 k sc v x hi st o Q)
noncomputable def subK2 (o : Dat) (Q : Dat → Sto → Prop) : Dat → Sto → Prop := fun i σ => subD o i σ Q
noncomputable def subK (k : W) (sc : Sc) (v : Vars) (s : Expr) (Q : Dat → Sto → Prop) : Dat → Sto → Prop := fun o σ => k.e sc v σ s (subK2 o Q)
noncomputable def sliceOf (s : Expr) : Option (Option Expr × Option Expr × Option Expr) := match s with | .Slice lo hi st _ => some (lo, hi, st) | _ => none
noncomputable def tnotK (Q : Bool → Sto → Prop) : Bool → Sto → Prop := fun b σ => Q (!b) σ
noncomputable def tnot (k : W) (sc : Sc) (v : Vars) (σ : Sto) (op : UnaryOp) (x : Expr) (Q : Bool → Sto → Prop) : Prop := match op with
  | .Not => k.t sc v σ x (tnotK Q)
  | _ => False
/-- statements' -/
noncomputable def retK (v : Vars) (K : Fl → Vars → Sto → Prop) : Dat → Sto → Prop := fun d σ => K (.ret d) v σ
noncomputable def ifsK (k : W) (sc : List (Str × NameKind)) (a b : List Stmt) (v : Vars) (K : Fl → Vars → Sto → Prop) : Bool → Sto → Prop := fun x σ => brn x (wpB k sc a v σ K) (wpB k sc b v σ K)
noncomputable def exprK (v : Vars) (K : Fl → Vars → Sto → Prop) : Dat → Sto → Prop := fun d σ => noneIs d (K .next v σ)
noncomputable def fluK (K : Fl → Vars → Sto → Prop) (re : Sto → Sto) : Fl → Vars → Sto → Prop := fun f v σ => K f v (re σ)
noncomputable def fsrK2 (T : Tabs) (k : W) (sc : List (Str × NameKind)) (t : Expr) (body : List Stmt) (v : Vars) (K : Fl → Vars → Sto → Prop) : List Dat → (Sto → Sto) → Sto → Prop := fun ds re σ2 => ForX T k sc t body (fluK K re) ds v σ2
noncomputable def fsrK (T : Tabs) (k : W) (sc : List (Str × NameKind)) (t : Expr) (body : List Stmt) (v : Vars) (K : Fl → Vars → Sto → Prop) : Dat → Sto → Prop := fun xv σ1 => SrcD xv σ1 (fsrK2 T k sc t body v K)
noncomputable def nextK (K : Fl → Vars → Sto → Prop) : Vars → Sto → Prop := K .next
noncomputable def addD (x y : Dat) (K : Dat → Prop) : Prop := intD x fun i => intD y fun j => K (.int (i + j))
noncomputable def augK (sc : List (Str × NameKind)) (x : Str) (a : Dat) (v : Vars) (K : Fl → Vars → Sto → Prop) : Dat → Sto → Prop := fun b σ => addD a b fun d => asName sc x d v σ (nextK K)
noncomputable def augA3 (n : Str) (o x : Dat) (v : Vars) (K : Fl → Vars → Sto → Prop) : Dat → Sto → Prop := fun y σ => addD x y fun d => setD o n d σ (K .next v)
noncomputable def augA2 (k : W) (sc : Sc) (e : Expr) (n : Str) (o : Dat) (v : Vars) (K : Fl → Vars → Sto → Prop) : Dat → Sto → Prop := fun x σ => k.e sc v σ e (augA3 n o x v K)
noncomputable def augA (T : Tabs) (k : W) (sc : Sc) (e : Expr) (n : Str) (v : Vars) (K : Fl → Vars → Sto → Prop) : Dat → Sto → Prop := fun a σ => instD T n a fun a => attrD a n σ (augA2 k sc e n a v K)
noncomputable def isAdd (op : Operator) (X : Prop) : Prop := match op with | .Add => X | _ => False
noncomputable def wpAug (T : Tabs) (k : W) (sc : List (Str × NameKind)) (v : Vars) (σ : Sto) (t : Expr) (e : Expr) (K : Fl → Vars → Sto → Prop) : Prop :=
  match t with
  | .Name x _ => tru (okName x) (som (look v x) fun a => k.e ⟨true, sc⟩ v σ e (augK sc x a v K))
  | .Attribute o n _ => tru (isName o) (k.e ⟨true, sc⟩ v σ o (augA T k ⟨true, sc⟩ e n v K))
  | _ => False
noncomputable def asgK (T : Tabs) (k : W) (sc : List (Str × NameKind)) (t : Expr) (v : Vars) (K : Fl → Vars → Sto → Prop) : Dat → Sto → Prop := fun d σ => wpA T k ⟨true, sc⟩ t d v σ (nextK K)
noncomputable def tupD (d : Dat) (K : List Dat → Prop) : Prop := match d with | .tup l => K l | _ => False
noncomputable def swpK (sc : List (Str × NameKind)) (names : List Str) (v : Vars) (K : Fl → Vars → Sto → Prop) : Dat → Sto → Prop := fun d σ => tupD d fun l => tru (Nat.beq names.length l.length) (asNames sc names.reverse l.reverse v σ (nextK K))
noncomputable def newN (sc : List (Str × NameKind)) (y : Str) (v : Vars) (K : Fl → Vars → Sto → Prop) : List Dat → Sto → Prop := fun acc σ => ∀ D, σ D = none → asName sc y (.val (.ref D)) v (σ.set D (.list acc)) (nextK K)
/-- the kinds of what is assigned -/
inductive VK
  | comp (elt : Expr) (gs : List Comprehension) (scope : Scope)
  | tup (vs : List Expr)
  | other
  | none
noncomputable def valKind (e : Expr) : VK := match e with
  | .ListComp elt gs scope _ => .comp elt gs scope
  | .Tuple vs _ _ => .tup vs
  | e => match isComp e with | true => .none | false => .other
noncomputable def nameOf (e : Expr) : Option Str := match e with | .Name y _ => some y | _ => none
noncomputable def tupOf (e : Expr) : Option (List Expr) := match e with | .Tuple ts _ _ => some ts | _ => none
noncomputable def wpAsg1 (T : Tabs) (k : W) (sc : List (Str × NameKind)) (v : Vars) (σ : Sto) (t e : Expr) (K : Fl → Vars → Sto → Prop) : Prop :=
  match valKind e with
  | .comp elt gs scope => som (nameOf t) fun y => wpList T k ⟨true, sc⟩ v σ elt gs scope (newN sc y v K)
  | .tup vs => match tupOf t with
    | some ts => tru (noStars vs && !(vs.all (constantsAlone 8))) (match swapRoad sc ts vs with
      | some names => k.e ⟨true, sc⟩ v σ e (swpK sc names v K)
      | none => k.e ⟨true, sc⟩ v σ e (asgK T k sc t v K))
    | none => tru (isTarget t) (k.e ⟨true, sc⟩ v σ e (asgK T k sc t v K))
  | .other => tru (isTarget t) (k.e ⟨true, sc⟩ v σ e (asgK T k sc t v K))
  | .none => False
noncomputable def W.ne (T : Tabs) (w : World) (D : Nat) (k : W) (sc : Sc) (v : Vars) (σ : Sto) (ex : Expr) (Q : Dat → Sto → Prop) : Prop := match ex with
  | .Constant c _ _ => constD c fun d => Q d σ
  | .Name x _ => nameD T sc v x fun d => Q d σ
  | .BinOp l op r _ => k.e sc v σ l (binK k sc v r op Q)
  | .UnaryOp op x _ => k.e sc v σ x (unK op Q)
  | .BoolOp op es _ => wpBool k sc v op es σ Q
  | .Compare l ops rs _ => wpCmp k sc v σ l ops rs Q Q
  | .IfExp t a b _ => k.t sc v σ t (ifeK k sc v a b Q)
  | .Tuple es _ _ => tru (noStars es) (wpL k sc v es σ (tupK Q))
  | .List es _ => tru (noStars es) (wpL k sc v es σ (lstK Q))
  | .Attribute o n _ => tru (isName o) (k.e sc v σ o (atrK T n Q))
  | .Subscript x s _ => match sliceOf s with
    | some z => k.e sc v σ x (slcK k sc v x z.1 z.2.1 z.2.2 Q)
    | none => k.e sc v σ x (subK k sc v s Q)
  | .Call f args kws pos => match kws with
    | [] => wpCall T w D k sc v σ f args pos Q
    | _ :: _ => False
  | .ListComp elt gs scope _ => wpList T k sc v σ elt gs scope (newK Q)
  | .Dict keys values _ => wpDict k sc v keys values σ Q
  | _ => False
noncomputable def W.nt (k : W) (sc : Sc) (v : Vars) (σ : Sto) (ex : Expr) (Q : Bool → Sto → Prop) : Prop := match ex with
  | .BoolOp op es _ => wpTs k sc v op es σ Q
  | .UnaryOp op x _ => tnot k sc v σ op x Q
  | .Compare l ops rs _ => wpCmp k sc v σ l ops rs (truK Q) (fun _ => Q false)
  | ex => tru (plainTest ex) (k.e sc v σ ex (truK Q))
noncomputable def W.ns (T : Tabs) (k : W) (sc : List (Str × NameKind)) (v : Vars) (σ : Sto) (st : Stmt) (K : Fl → Vars → Sto → Prop) : Prop := match st with
  | .Return e _ => som e fun e => k.e ⟨true, sc⟩ v σ e (retK v K)
  | .If t a b _ => k.t ⟨true, sc⟩ v σ t (ifsK k sc a b v K)
  | .Expr e _ => tru (!isComp e) (k.e ⟨true, sc⟩ v σ e (exprK v K))
  | .While t body orelse _ => match orelse with
    | [] => whileP k sc t body K v σ
    | _ :: _ => False
  | .For t iter body orelse _ => match orelse with
    | [] => tru (!isSet iter) (k.e ⟨true, sc⟩ v σ iter (fsrK T k sc t body v K))
    | _ :: _ => False
  | .Try body hs orelse fin _ => match hs with
    | [] => False
    | _ :: _ => match fin with
      | [] => wpB k sc body v σ (seqK (wpB k sc orelse) K)
      | _ :: _ => False
  | .AugAssign t op e _ => isAdd op (wpAug T k sc v σ t e K)
  | .Assign ts e _ => match ts with
    | [] => False
    | t :: r => match r with
      | [] => wpAsg1 T k sc v σ t e K
      | _ :: _ => False
  | _ => False
noncomputable def W.next (T : Tabs) (w : World) (D : Nat) (k : W) : W := ⟨W.ne T w D k, W.nt k, W.ns T k⟩
noncomputable def wpW (T : Tabs) (w : World) (D : Nat) : Nat → W
  | 0 => ⟨fun _ _ _ _ _ => False, fun _ _ _ _ _ => False, fun _ _ _ _ _ => False⟩
  | n + 1 => W.next T w D (wpW T w D n)
end
section
set_option backward.match.sparseCases false
noncomputable def OkSc (c : Cx) (env : Env) (sc : Sc) : Prop :=
  match sc.fn with
  | true => FunOk c env sc.l ∧ env.scope.names = sc.l
  | false => BlkOk c env sc.l
theorem OkSc.s {c : Cx} {env : Env} {sc : Sc} (h : OkSc c env sc) : SOk c env sc.l := by
  obtain ⟨fn, l⟩ := sc
  cases fn with
  | true => exact .fn h.1
  | false => exact .blk h
theorem OkSc.fr {c : Cx} {env : Env} {sc : Sc} (h : OkSc c env sc) : FrOk env sc.l sc.fn := by
  obtain ⟨fn, l⟩ := sc
  cases fn with
  | true => exact h.1.fr
  | false => exact BlkOk.fr h
theorem OkSc.f {c : Cx} {env : Env} {sc : List (Str × NameKind)} (h : FunOk c env sc) (e : env.scope.names = sc) : OkSc c env ⟨true, sc⟩ := ⟨h, e⟩
structure Sound (w : World) (D : Nat) (k : W) : Prop where
  e : ∀ {c : Cx} {env : Env} {sc : Sc} {v : Vars} {σ : Sto} {ex : Expr} {Q : Dat → Sto → Prop}, c.Ok w (D + 1) → OkSc c env sc → k.e sc v σ ex Q → Ev c w env v σ (eval ex env) Q
  t : ∀ {c : Cx} {env : Env} {sc : Sc} {v : Vars} {σ : Sto} {ex : Expr} {Q : Bool → Sto → Prop}, c.Ok w (D + 1) → OkSc c env sc → k.t sc v σ ex Q → EvB c w env v σ (isTrue ex env (eval ex env)) Q
  s : ∀ {c : Cx} {env : Env} {sc : List (Str × NameKind)} {v : Vars} {σ : Sto} {st : Stmt} {K : Fl → Vars → Sto → Prop}, c.Ok w (D + 1) → FunOk c env sc → env.scope.names = sc → k.s sc v σ st K → StG c w env v σ (exec st env) K
theorem brn_ifP {b : Bool} {X Y X' Y' : Prop} (h : brn b X Y) (x : X → X') (y : Y → Y') : if b = true then X' else Y' := by
  cases b with
  | true => exact x (h.t rfl)
  | false => exact y (h.f rfl)
section
variable {T : Tabs} {w : World} {D : Nat} {k : W} {c : Cx} {env : Env} {sc : Sc} {v : Vars} {σ : Sto}
theorem wpL_ok (S : Sound w D k) (K : c.Ok w (D + 1)) (O : OkSc c env sc) {pos : Pos} {es : List Expr} {σ : Sto} {Q : List Dat → Sto → Prop} (hs : noStars es = true) (h : wpL k sc v es σ Q) : EvL c w env v σ (spliced (backTo pos (starEach es env))) Q := by
  induction es generalizing σ Q with
  | nil => exact evs_nil h
  | cons e r ih => exact evs_cons (noStars_cons hs).1 (EvG.mono (S.e K O h) fun d σ1 q => ih (noStars_cons hs).2 q)
theorem seq_st {ih : Vars → Sto → (Fl → Vars → Sto → Prop) → Prop} {r : List Stmt} {Kf : Fl → Vars → Sto → Prop} (hh : ∀ v σ, ih v σ Kf → StG c w env v σ (execs r env) Kf) {f : Fl} {v : Vars} {σ : Sto} : seqK ih Kf f v σ → match f with | .next => StG c w env v σ (execs r env) Kf | f => Kf f v σ := by
  cases f with
  | next => exact hh _ _
  | _ => exact id
theorem wpB_ok (S : Sound w D k) (K : c.Ok w (D + 1)) {sc : List (Str × NameKind)} (O : FunOk c env sc) (hn : env.scope.names = sc) {ts : List Stmt} {v : Vars} {σ : Sto} {Kf : Fl → Vars → Sto → Prop} (h : wpB k sc ts v σ Kf) : StG c w env v σ (execs ts env) Kf := by
  induction ts generalizing v σ with
  | nil => exact st_nil h
  | cons t r ih => exact st_cons ((S.s K O hn h).mono fun f v1 σ1 q => seq_st (fun v σ h => ih h) q)
theorem inst_ok (TO : T.Ok w) {n : Str} {a : Dat} {X : Dat → Prop} {P : Prop} (h : instD T n a X) (k : ∀ x C da, AtrOk w C n → a = .inst x C da → X (.inst x C da) → P) : P := by
  cases a with
  | inst x C da => exact tru_ok h fun e h => k x C da (TO.a e) rfl h
  | _ => exact False.elim h
theorem wpA1_ok (TO : T.Ok w) (S : Sound w D k) (K : c.Ok w (D + 1)) (O : OkSc c env sc) {t : Expr} {d : Dat} {Kf : Vars → Sto → Prop} (h : wpA1 T k sc t d v σ Kf) : AsG c w env v σ (assign t env) d Kf := by
  cases t with
  | Name => exact as_nameT (as_nameS O.s h)
  | Attribute => exact as_attrT (EvG.mono (S.e K O h) fun a σ1 q => inst_ok TO q fun x C da A e q => e ▸ fun s m led u v I Ru Rv => op_set K A ⟨_, _, rfl⟩ q I Ru Rv)
  | Subscript => exact as_subT (EvG.mono (S.e K O h) fun a σ1 q => EvG.mono (S.e K O q) fun ix σ2 q2 => fun s m led u x v I Ra Rk Rv => op_setItem q2 I Ra Rk Rv)
  | _ => exact False.elim h
theorem target_each {t : Expr} {r : List Expr} (h : isTarget t = true) : assignEach (t :: r) env = (false, assign t env) :: assignEach r env := by
  cases t <;> first | rfl | cases h
theorem targets_cons {t : Expr} {r : List Expr} (h : targetsOk (t :: r) = true) : isTarget t = true ∧ targetsOk r = true := by
  unfold targetsOk at h
  cases e : isTarget t with
  | true => rw [e] at h; exact ⟨rfl, h⟩
  | false => rw [e] at h; cases h
theorem each_all : ∀ {es : List Expr}, targetsOk es = true → assignEach es env = es.map fun t => (false, assign t env)
  | [], _ => rfl
  | t :: r, h => by
    obtain ⟨h1, h2⟩ := targets_cons h
    rw [target_each h1, each_all h2, List.map_cons]
theorem find_none : ∀ {es : List Expr}, (es.map fun t => (false, assign t env)).findIdx? (·.1) = none
  | [] => rfl
  | t :: r => by
    rw [List.map_cons, List.findIdx?_cons, find_none]; rfl
theorem wpAs_ok (TO : T.Ok w) (S : Sound w D k) (K : c.Ok w (D + 1)) (O : OkSc c env sc) {ts : List Expr} {ds : List Dat} {v : Vars} {σ : Sto} {Kf : Vars → Sto → Prop} (h : wpAs T k sc ts ds v σ Kf) : AsL c w env (ts.map fun t => assign t env) ds v σ Kf := by
  induction ts generalizing ds v σ with
  | nil =>
    cases ds with
    | nil => exact h
    | cons => exact False.elim h
  | cons t ts ih =>
    cases ds with
    | nil => exact False.elim h
    | cons d ds => exact (wpA1_ok TO S K O h).mono fun v1 σ1 q => ih q
theorem partsD_mono {d : Dat} {K K' : List Dat → Prop} (h : partsD d σ K) (q : ∀ l, K l → K' l) : partsD d σ K' := by
  cases d with
  | tup l => exact q _ h
  | val v =>
    cases v with
    | ref a => exact let ⟨l, e, h⟩ := h; ⟨l, e, q _ h⟩
    | _ => exact h
  | _ => exact h
theorem wpA_ok (TO : T.Ok w) (S : Sound w D k) (K : c.Ok w (D + 1)) (O : OkSc c env sc) {t : Expr} {d : Dat} {Kf : Vars → Sto → Prop} (h : wpA T k sc t d v σ Kf) : AsG c w env v σ (assign t env) d Kf := by
  cases t with
  | Tuple es n p =>
    refine tru_ok (X := partsD d σ (partK T k sc es v σ Kf)) h fun ht h => ?_
    have e := each_all (env := env) ht
    refine as_tuple K (by rw [e]; exact find_none) (partsD_mono h fun l q => tru_ok q fun hl q => ?_)
    rw [e]
    refine ⟨(List.length_map ..).trans (Nat.eq_of_beq_eq_true hl), ?_⟩
    rw [List.map_map]
    exact wpAs_ok TO S K O q
  | _ => exact wpA1_ok TO S K O h
theorem for_turn (TO : T.Ok w) (S : Sound w D k) (K : c.Ok w (D + 1)) {sc : List (Str × NameKind)} (O : FunOk c env sc) (hn : env.scope.names = sc) {t : Expr} {body : List Stmt} {Kf : Fl → Vars → Sto → Prop} {d : Dat} {ds : List Dat} {ih : Vars → Sto → Prop} (hi : ∀ v σ, ih v σ → ForR c w env t body Kf ds v σ) {v : Vars} {σ : Sto} (h : wpA T k ⟨true, sc⟩ t d v σ (forB k sc body ih Kf)) : ForR c w env t body Kf (d :: ds) v σ :=
  ⟨v, fun _ _ e => e, (wpA_ok TO S K (.f O hn) h).mono fun v1 σ1 q => (wpB_ok S K O hn q).mono fun f v2 σ2 q2 => by
    cases f with
    | next => exact hi _ _ q2
    | cont => exact hi _ _ q2
    | brk => exact q2
    | ret d => exact q2⟩
theorem ForR.less {t : Expr} {body : List Stmt} {Kf : Fl → Vars → Sto → Prop} {ds : List Dat} {v' v : Vars} {σ : Sto} (F : Fewer v' v) (h : ForR c w env t body Kf ds v' σ) : ForR c w env t body Kf ds v σ := by
  cases ds <;> exact let ⟨u, G, h⟩ := h; ⟨u, fun x d e => F x d (G x d e), h⟩
theorem wpFor_ok (TO : T.Ok w) (S : Sound w D k) (K : c.Ok w (D + 1)) {sc : List (Str × NameKind)} (O : FunOk c env sc) (hn : env.scope.names = sc) {t : Expr} {body : List Stmt} {Kf : Fl → Vars → Sto → Prop} {ds : List Dat} {v : Vars} {σ : Sto} (h : ForX T k sc t body Kf ds v σ) : ForR c w env t body Kf ds v σ := by
  cases h with
  | un h =>
    induction ds generalizing v σ with
    | nil => exact ⟨v, fun _ _ e => e, h⟩
    | cons d ds ih => exact for_turn TO S K O hn (fun v σ h => ih h) h
  | inv J v0 hs h0 hn0 ht =>
    refine ForR.less (v' := v0) (fun x d e => hs.at e) ?_
    clear hs
    induction ds generalizing v0 σ with
    | nil => exact ⟨v0, fun _ _ e => e, hn0 _ _ h0⟩
    | cons d ds ih => exact for_turn TO S K O hn (fun v1 σ1 ⟨v', s, j⟩ => ForR.less (fun x d e => s.at e) (ih v' j)) (ht _ _ _ _ h0)
theorem comp_turn (TO : T.Ok w) (S : Sound w D k) (K : c.Ok w (D + 1)) (O : OkSc c env sc) {t : Expr} {ifs : List Expr} {elt : Expr} {Kf : List Dat → Sto → Prop} {cv : Vars} {d : Dat} {ds acc : List Dat} {σ : Sto} {ih : List Dat → Sto → Prop} (hi : ∀ acc σ, ih acc σ → CompR c w env cv t ifs elt Kf ds acc σ) (h : wpA T k sc t d cv σ (compK k sc ifs elt ih acc)) : CompR c w env cv t ifs elt Kf (d :: ds) acc σ := by
  refine (wpA_ok TO S K O h).mono fun v1 σ1 q => ?_
  cases ifs with
  | nil => exact EvG.mono (S.e K O q) fun r σ3 q3 => hi _ _ q3
  | cons c r =>
    cases r with
    | nil => exact EvG.mono (S.t K O q) fun b σ2 q2 => brn_ifP q2 (fun q => EvG.mono (S.e K O q) fun r σ3 q4 => hi _ _ q4) fun q => hi _ _ q
    | cons => exact False.elim q
theorem wpC_ok (TO : T.Ok w) (S : Sound w D k) (K : c.Ok w (D + 1)) (O : OkSc c env sc) {t : Expr} {ifs : List Expr} {elt : Expr} {Kf : List Dat → Sto → Prop} {cv : Vars} {ds : List Dat} {σ : Sto} (h : CmpX T k sc cv t ifs elt Kf ds σ) : CompR c w env cv t ifs elt Kf ds [] σ := by
  have key : ∀ {J : List Dat → List Dat → Sto → Prop} {ds acc : List Dat} {σ : Sto}, J ds acc σ → (∀ acc σ, J [] acc σ → Kf acc σ) → (∀ d ds acc σ, J (d :: ds) acc σ → wpA T k sc t d cv σ (compK k sc ifs elt (J ds) acc)) → CompR c w env cv t ifs elt Kf ds acc σ := fun {J ds acc σ} h0 hn ht => by
    induction ds generalizing acc σ with
    | nil => exact hn _ _ h0
    | cons d ds ih => exact comp_turn TO S K O (fun acc σ h => ih h) (ht _ _ _ _ h0)
  cases h with
  | un h => exact key (J := wpC T k sc cv t ifs elt Kf) h (fun _ _ h => h) fun _ _ _ _ h => h
  | inv J h0 hn ht => exact key h0 hn ht
theorem cmp_ok (K : c.Ok w (D + 1)) {o : CmpOp} {a b : Dat} {Q : Dat → Sto → Prop} (h : cmpAll o a b σ Q) : Op2 c w env v σ (compareOp o) a b Q := by
  cases o with
  | In => exact op_in h
  | _ => exact op_cmp K h
theorem truthy_mono {d : Dat} {σ : Sto} {Q Q' : Bool → Sto → Prop} (h : truthyD d σ Q) (q : ∀ b σ, Q b σ → Q' b σ) : truthyD d σ Q' := by
  cases d with
  | int => exact q _ _ h
  | str => exact ⟨h.1, q _ _ h.2⟩
  | val v =>
    cases v with
    | bool => exact q _ _ h
    | none => exact q _ _ h
    | _ => exact h
  | _ => exact h
theorem wpBool_ok (S : Sound w D k) (K : c.Ok w (D + 1)) (O : OkSc c env sc) {op : BoolOp} {pos : Pos} {es : List Expr} {σ : Sto} {Q : Dat → Sto → Prop} (h : wpBool k sc v op es σ Q) : Ev c w env v σ (eval (.BoolOp op es pos) env) Q := by
  induction es generalizing σ with
  | nil => exact False.elim h
  | cons e r ih =>
    cases r with
    | nil => exact ev_one (S.e K O h)
    | cons e2 r =>
      have h := S.e K O (show k.e sc v σ e (bolK op (wpBool k sc v op (e2 :: r)) Q) from h)
      cases op with
      | And => exact ev_and (h.mono fun a σ1 q => op_truthy (truthy_mono q fun b σ2 q2 => brn_ifP q2 (fun q => ih q) id))
      | Or => exact ev_or (h.mono fun a σ1 q => op_truthy (truthy_mono q fun b σ2 q2 => brn_ifP q2 id fun q => ih q))
theorem wpTs_ok (S : Sound w D k) (K : c.Ok w (D + 1)) (O : OkSc c env sc) {op : BoolOp} {pos : Pos} {whole : Sem Value} {es : List Expr} {σ : Sto} {Q : Bool → Sto → Prop} (h : wpTs k sc v op es σ Q) : EvB c w env v σ (isTrue (.BoolOp op es pos) env whole) Q := by
  cases op with
  | And =>
    induction es generalizing σ with
    | nil => exact ev_tand0 h
    | cons e r ih => exact ev_tand (EvG.mono (S.t K O h) fun b σ1 q => brn_ifP q (fun q => ih q) id)
  | Or =>
    induction es generalizing σ with
    | nil => exact ev_tor0 h
    | cons e r ih => exact ev_tor (EvG.mono (S.t K O h) fun b σ1 q => brn_ifP q id fun q => ih q)
theorem wpPs_ok (S : Sound w D k) (K : c.Ok w (D + 1)) (O : OkSc c env sc) {pos : Pos} {ks : List (Option Expr)} {vs : List Expr} {σ : Sto} {Q : List (Str × Dat) → Sto → Prop} (h : wpPs k sc v ks vs σ Q) : EvG c w env v (RPs w) σ (evalPairs (pairTrees ks vs env pos)) Q := by
  induction ks generalizing vs σ Q with
  | nil =>
    cases vs with
    | nil => exact ps_nil h
    | cons => exact False.elim h
  | cons ke ks ih =>
    cases vs with
    | nil => exact False.elim h
    | cons e vs =>
      refine som_ok h fun x ex h => ?_
      obtain ⟨_, _, rfl⟩ := keyOf_is ex
      exact ps_cons (EvG.mono (S.e K O h) fun d σ1 q => ih q)
theorem wpDict_ok (S : Sound w D k) (K : c.Ok w (D + 1)) (O : OkSc c env sc) {pos : Pos} {keys : List (Option Expr)} {values : List Expr} {Q : Dat → Sto → Prop} (h : wpDict k sc v keys values σ Q) : EvG c w env v (RVd w) σ (eval (.Dict keys values pos) env) Q :=
  som_ok h fun ks e h => tru_ok h fun z h => by
    simp only [Bool.and_eq_true] at z
    exact ev_dictG K e z.1.1 z.1.2 z.2 (EvG.mono (wpPs_ok S K O h) fun ds σ1 q => tru_ok q fun e2 q => ⟨e2, q⟩)
end
end
section
set_option backward.match.sparseCases false
theorem sm_name {name : Str} {o : Sm} (h : look smTab name = some o) : name = o.name := sEq_iff.mp (List.all_eq_true.mp (show smTab.all (fun p => sEq p.1 p.2.name) = true from rfl) _ (look_mem h))
theorem lm_name {name : Str} {o : Lm} (h : look lmTab name = some o) : name = o.name := sEq_iff.mp (List.all_eq_true.mp (show lmTab.all (fun p => sEq p.1 p.2.name) = true from rfl) _ (look_mem h))
section
variable {T : Tabs} {w : World} {D : Nat} {k : W} {c : Cx} {env : Env} {sc : Sc} {v : Vars} {σ : Sto}
theorem GlobIs.ev (K : c.Ok w D) (O : OkSc c env sc) {x : Str} {pos : Pos} {d : Dat} {Q : Dat → Sto → Prop} (hx : okName x = true) (hs : look sc.l x = some .globalImplicit) (G : GlobIs w x d) (h : Q d σ) : Ev c w env v σ (eval (.Name x pos) env) Q := ev_glob K O.s.base hx hs G h
theorem get_sm {o : Sm} {x : Str} {t : Tok} {pl : Sem Bool} {M : Model} {A : Around} {s : Shared} {Q : Value × List Value → Shared → Prop} {E : Value → Shared → Prop} (h : Q (o.val, [.str x t]) s) : wpAny M A (getMethod (.str x t) o.name pl) Q E s := by
  cases o with
  | strip => exact GM.strip h
  | endswith => exact GM.endswith h
  | split => exact GM.split h
  | join => exact GM.join h
  | index => exact GM.index h
theorem get_lm {o : Lm} {a : Addr} {vs : List Value} {n : Nat} {led : Led} {h0 : Heap} {L : Addr} {pl : Sem Bool} {prog : Program} {A : Around} {s : Shared} {Q : Value × List Value → Shared → Prop} {E : Value → Shared → Prop} (N : News h0 L s.heap led) (ho : (a, lstO vs n) ∈ led) (h : Q (o.val, [.ref a]) s) : wpAny (model prog w) A (getMethod (.ref a) o.name pl) Q E s := by
  cases o with
  | append => exact listMethod_K (its := vs.toArray) (n := n) N ho PySem.F.slot_list_append PySem.F.type_list_append h
  | pop => exact listMethod_K (its := vs.toArray) (n := n) N ho PySem.F.slot_list_pop PySem.F.type_list_pop h
  | extend => exact listMethod_K (its := vs.toArray) (n := n) N ho PySem.F.slot_list_extend PySem.F.type_list_extend h
theorem noName_is {fs : List (Str × Dat)} {name : Str} (h : noName fs name = true) : look fs name = none := by
  unfold noName at h
  cases e : look fs name with
  | none => rfl
  | some d => rw [e] at h; cases h
theorem methP_ok (TO : T.Ok w) (S : Sound w D k) (K : c.Ok w (D + 1)) (O : OkSc c env sc) {o : Expr} {name : Str} {es : List Expr} {apos pos : Pos} {Q : Dat → Sto → Prop} (h1 : plainBase o = true) (h2 : Nat.beq apos.endLine pos.line = true) (h3 : noStars es = true) (h4 : Nat.blt es.length 30 = true)
    (h : Ev c w env v σ (eval o env) (methP T w D k sc v name es Q)) : Ev c w env v σ (eval (.Call (.Attribute o name apos) es [] pos) env) Q := by
  refine ev_meth K h1 h2 h3 h4 (h.mono fun d σ1 q => ?_)
  cases d with
  | str x =>
    refine som_ok q fun sm e q9 => ?_
    clear q
    cases sm_name e
    exact ⟨sm.val, .inr (.inl ⟨_, rfl⟩), fun s m led u pl Q' I R hQ => by cases R; exact get_sm hQ, EvG.mono (wpL_ok S K O h3 q9) fun ds σ2 q2 => op_sm K q2⟩
  | val u =>
    cases u with
    | ref a =>
      refine som_ok (show som (look lmTab name) _ from q) fun lm e q9 => ?_
      clear q
      cases lm_name e
      obtain ⟨⟨l, el⟩, q⟩ := q9
      refine ⟨lm.val, .inr (.inl ⟨_, rfl⟩), fun s m led u pl Q' I R hQ => ?_, EvG.mono (wpL_ok S K O h3 q) fun ds σ2 q2 => op_lm K q2⟩
      cases R
      obtain ⟨ob, ho, vs, n, rfl, _⟩ := I.rs _ _ el
      exact get_lm I.N ho hQ
    | _ => exact False.elim q
  | inst x C da =>
    refine som_ok q fun f e q => ?_
    obtain ⟨⟨fs, ef, hn⟩, q⟩ := q
    obtain ⟨M, kp⟩ := TO.m e
    exact ⟨.ref f, kp, fun s m led u pl Q' I R hQ => meth_inst K M ef (noName_is hn) I R hQ, EvG.mono (wpL_ok S K O h3 q) fun ds σ2 q2 => CallP.use q2 (K.le (Nat.le_succ _))⟩
  | _ => exact False.elim q
theorem dictPair_is {e : Expr} {kv : List (Option Expr) × List Expr} (h : dictPair e = some kv) : ∃ p, e = .Dict kv.1 kv.2 p := by
  cases e with
  | Dict keys values p => cases h; exact ⟨p, rfl⟩
  | _ => exact none_no h
theorem isUpdate_is {name : Str} {args : List Expr} {kv : List (Option Expr) × List Expr} (h : isUpdate name args = some kv) : name = "update" ∧ ∃ p, args = [.Dict kv.1 kv.2 p] := by
  unfold isUpdate at h
  cases e : sEq name "update" with
  | false => rw [e] at h; cases h
  | true =>
    rw [e] at h
    cases args with
    | nil => cases h
    | cons a r =>
      cases r with
      | cons => cases h
      | nil =>
        obtain ⟨p, rfl⟩ := dictPair_is h
        exact ⟨sEq_iff.mp e, p, rfl⟩
theorem wpCall_ok (TO : T.Ok w) (S : Sound w D k) (K : c.Ok w (D + 1)) (O : OkSc c env sc) {f : Expr} {args : List Expr} {pos : Pos} {Q : Dat → Sto → Prop} (h : wpCall T w D k sc v σ f args pos Q) : Ev c w env v σ (eval (.Call f args [] pos) env) Q := by
  cases f with
  | Name x p =>
    refine tru_ok h fun z h => ?_
    simp only [Bool.and_eq_true] at z
    obtain ⟨⟨hx, hs⟩, hg⟩ := z
    cases e : look T.b x with
    | some b =>
      rw [e] at h
      exact ev_call (f := .none) K hs ⟨_, _, rfl⟩ (GlobIs.ev (D := D + 1) K O hx (isG_is hg) (TO.b e) ⟨_, rfl, b.keeps, EvG.mono (wpL_ok S K O hs h) fun ds σ1 q => op_bi K q⟩)
    | none =>
      rw [e] at h
      refine som_ok h fun a e h => ?_
      exact ev_call (f := .none) K hs ⟨_, _, rfl⟩ (GlobIs.ev (D := D + 1) K O hx (isG_is hg) (TO.f e).1 ⟨_, rfl, (TO.f e).2, EvG.mono (wpL_ok S K O hs h) fun ds σ1 q => CallP.use q (K.le (Nat.le_succ _))⟩)
  | Attribute o name ap =>
    refine tru_ok h fun z h => ?_
    simp only [Bool.and_eq_true] at z
    obtain ⟨⟨⟨z1, z2⟩, z3⟩, z4⟩ := z
    cases e : isUpdate name args with
    | some kv =>
      rw [e] at h
      obtain ⟨rfl, p, rfl⟩ := isUpdate_is e
      refine ev_update (ks := []) K z1 z2 (EvG.mono (S.e K O h) fun d σ1 q => ?_)
      obtain ⟨a, l, rfl, el, q⟩ := q
      exact ⟨a, l, rfl, el, wpDict_ok S K O q⟩
    | none => rw [e] at h; exact methP_ok TO S K O z1 z2 z3 z4 (S.e K O h)
  | _ => exact False.elim h
theorem SrcD_mono {xv : Dat} {Q Q' : List Dat → (Sto → Sto) → Sto → Prop} (h : SrcD xv σ Q) (q : ∀ ds re σ, Q ds re σ → Q' ds re σ) : SrcD xv σ Q' := by
  cases xv with
  | tup => exact ⟨h.1, q _ _ _ h.2⟩
  | rng => exact ⟨h.1, q _ _ _ h.2⟩
  | str => exact q _ _ _ h
  | val v =>
    cases v with
    | ref a => exact let ⟨ds, e, h⟩ := h; ⟨ds, e, q _ _ _ h⟩
    | _ => exact h
  | _ => exact h
/-- a comprehension taken apart -/
theorem wpList_ok (TO : T.Ok w) (S : Sound w D k) (K : c.Ok w (D + 1)) (O : OkSc c env sc) {elt : Expr} {gs : List Comprehension} {scope : Scope} {Kf : List Dat → Sto → Prop} {P : Prop} (h : wpList T k sc v σ elt gs scope Kf)
    (q : ∀ t iter ifs, gs = [⟨t, iter, ifs, 0⟩] → blockOk sc.fn sc.l scope.names = true → firstsOk scope.names = true → scope.kind = .function → isSet iter = false →
      (Ev c w env v σ (eval iter env) fun xv σ1 => SrcC xv σ1 fun ds re σ2 => ∀ C, BlkOk c (cEnv env scope C) scope.names → CompR c w (cEnv env scope C) (capV scope.names v) t ifs elt (fun acc σ' => Kf acc (re σ')) ds [] σ2) → P) : P := by
  cases gs with
  | nil => exact False.elim h
  | cons g r =>
    cases r with
    | cons => exact False.elim h
    | nil =>
      refine tru_ok h fun z h => ?_
      simp only [Bool.and_eq_true, decide_eq_true_eq, Bool.not_eq_true'] at z
      obtain ⟨t, iter, ifs, n⟩ := g
      obtain ⟨⟨⟨⟨z0, z1⟩, z2⟩, z3⟩, z4⟩ := z
      cases (show n = 0 from z0)
      exact q t iter ifs rfl z1 z2 z3 z4 (EvG.mono (S.e K O h) fun xv σ1 q => SrcC_mono q fun ds re σ2 q2 C B => wpC_ok (sc := ⟨false, scope.names⟩) TO S K B q2)
theorem un_ok {op : UnaryOp} {a : Dat} {Q : Dat → Sto → Prop} (h : unD op a σ Q) : Op1 c w env v (RV w) σ (unaryOp op) a Q := by
  intro s m led u I R
  cases op with
  | USub => exact intD_ok h R fun i t h => neg_int (PostG.same I (.int _ _) h)
  | Not =>
    refine not_value (bndB (op_truthy h s m led u I R) ?_)
    intro b σ1 led1 h1 tk1 I1 X1 q1
    exact mkG (b := .val (.bool (!b))) I1 X1 (.val _) (show Q (.val (.bool (!b))) σ1 from q1)
  | _ => exact False.elim h
theorem plain_he {ex : Expr} (h : plainTest ex = true) {whole : Sem Value} : isTrue ex env whole = (do let v ← whole; standAt ex.pos; holding [v] (truthy v)) := by
  cases ex <;> first | rfl | exact Bool.noConfusion (show false = true from h)
theorem wpOpt_ok (S : Sound w D k) (K : c.Ok w (D + 1)) (O : OkSc c env sc) {e : Option Expr} {Q : Dat → Sto → Prop} (h : wpOpt k sc v e σ Q) : Ev c w env v σ (valueOrNone (evalOpt e env)) Q := by
  cases e with
  | none => exact ev_opt h
  | some e => exact ev_opt (S.e K O h)
theorem intD_mono {d : Dat} {K K' : Int → Prop} (h : intD d K) (f : ∀ x, K x → K' x) : intD d K' := by
  cases d with
  | int x => exact f _ h
  | _ => exact h
theorem strD_mono {d : Dat} {K K' : Str → Prop} (h : strD d K) (f : ∀ x, K x → K' x) : strD d K' := by
  cases d with
  | str x => exact f _ h
  | _ => exact h
theorem noneIs_mono {b : Dat} {X X' : Prop} (f : X → X') (h : noneIs b X) : noneIs b X' := by
  cases b with
  | val v =>
    cases v with
    | none => exact f h
    | _ => exact h
  | _ => exact h
theorem cmpAll_mono {o : CmpOp} {a b : Dat} {σ : Sto} {Q Q' : Dat → Sto → Prop} (h : cmpAll o a b σ Q) (q : ∀ d σ, Q d σ → Q' d σ) : cmpAll o a b σ Q' := by
  have s1 : ∀ {K K' : Bool → Prop}, (∀ x, K x → K' x) → som (isNoneD a) K → som (isNoneD a) K' := fun {K K'} f h => som_ok h fun x e h => by rw [e]; exact f _ h
  have v1 : ∀ {neg : Bool} {x y : Dat}, eqvD neg x y σ Q → eqvD neg x y σ Q' := fun h => by
    unfold eqvD at h ⊢
    exact let ⟨pa, pb, z, h⟩ := h; ⟨pa, pb, z, q _ _ h⟩
  have e1 : ∀ {neg : Bool}, eqD neg a b σ Q → eqD neg a b σ Q' := fun h => by
    cases a with
    | int x =>
      cases b with
      | int y => exact q _ _ h
      | _ => exact v1 h
    | str x =>
      cases b with
      | str y => exact q _ _ h
      | _ => exact v1 h
    | _ => exact v1 h
  cases o with
  | In => exact strD_mono h fun x h => strD_mono h fun y h => oneSign_ok h fun cp e h => by subst e; exact q _ _ h
  | Is => exact noneIs_mono (s1 fun _ h => q _ _ h) h
  | IsNot => exact noneIs_mono (s1 fun _ h => q _ _ h) h
  | Lt => exact intD_mono h fun _ h => intD_mono h fun _ h => q _ _ h
  | LtE => exact intD_mono h fun _ h => intD_mono h fun _ h => q _ _ h
  | Gt => exact intD_mono h fun _ h => intD_mono h fun _ h => q _ _ h
  | GtE => exact intD_mono h fun _ h => intD_mono h fun _ h => q _ _ h
  | Eq => exact e1 h
  | NotEq => exact e1 h
  | _ => exact h
theorem not_true {b : Bool} (h : (!b) = true) : b = false := by cases b <;> first | rfl | cases h
theorem chn_ok (S : Sound w D k) (K : c.Ok w (D + 1)) (O : OkSc c env sc) {l r1 r2 : Expr} {o1 o2 : CmpOp} {Q : Dat → Sto → Prop} {F : Dat → Sto → Prop} (h : k.e sc v σ l (chnK k sc v r1 r2 o1 o2 Q F)) :
    Ev c w env v σ (eval l env) fun a σ1 => Ev c w env v σ1 (eval r1 env) fun b σ2 => Op2 c w env v σ2 (compareOp o1) a b fun t σ3 => Op1 c w env v (fun _ b b' => b = b') σ3 truthy t fun y σ4 =>
      if y = true then Ev c w env v σ4 (eval r2 env) fun d σ5 => Op2 c w env v σ5 (compareOp o2) b d Q else F t σ4 :=
  EvG.mono (S.e K O h) fun a σ1 q => EvG.mono (S.e K O q) fun b σ2 q2 => cmp_ok K (cmpAll_mono q2 fun t σ3 q3 => op_truthy (truthy_mono q3 fun y σ4 q4 => brn_ifP q4 (fun q => EvG.mono (S.e K O q) fun d σ5 q6 => cmp_ok K q6) id))
@[elab_as_elim] theorem wpCmp_ok {σ : Sto} {l : Expr} {Q : Dat → Sto → Prop} {F : Dat → Sto → Prop} {P : List CmpOp → List Expr → Prop} {ops : List CmpOp} {rs : List Expr} (h : wpCmp k sc v σ l ops rs Q F) (h1 : ∀ o r, behindInMarks o r = false → k.e sc v σ l (cmpK k sc v r o Q) → P [o] [r])
    (h2 : ∀ o1 o2 r1 r2, lastMarks [o1, o2] [r1, r2] = false → k.e sc v σ l (chnK k sc v r1 r2 o1 o2 Q F) → P [o1, o2] [r1, r2]) : P ops rs := by
  cases ops with
  | nil => exact False.elim h
  | cons o1 os =>
    cases rs with
    | nil => cases os <;> exact False.elim h
    | cons r1 rr =>
      cases os with
      | nil =>
        cases rr with
        | nil => exact tru_ok h fun z h => h1 _ _ (not_true z) h
        | cons => exact False.elim h
      | cons o2 os =>
        cases os with
        | nil =>
          cases rr with
          | nil => exact False.elim h
          | cons r2 rr =>
            cases rr with
            | nil => exact tru_ok h fun z h => h2 _ _ _ _ (not_true z) h
            | cons => exact False.elim h
        | cons => cases rr <;> exact False.elim h
theorem sliceOf_is {s : Expr} {z : Option Expr × Option Expr × Option Expr} (h : sliceOf s = some z) : ∃ p, s = .Slice z.1 z.2.1 z.2.2 p := by
  cases s with
  | Slice lo hi st p => cases h; exact ⟨p, rfl⟩
  | _ => exact none_no h
theorem sliceOf_none {s : Expr} (h : sliceOf s = none) : isSlice s = false := by
  cases s <;> first | rfl | cases h
theorem isName_is {o : Expr} (h : isName o = true) : ∃ x p, o = .Name x p := by
  cases o with
  | Name x p => exact ⟨x, p, rfl⟩
  | _ => exact Bool.noConfusion (show false = true from h)
theorem sound_e (TO : T.Ok w) (S : Sound w D k) (K : c.Ok w (D + 1)) (O : OkSc c env sc) {ex : Expr} {Q : Dat → Sto → Prop} (h : W.ne T w D k sc v σ ex Q) : Ev c w env v σ (eval ex env) Q := by
  cases ex with
  | Constant c n p =>
    cases c with
    | int => exact ev_int h
    | str => exact ev_str h
    | bool => exact ev_bool h
    | none => exact ev_none h
    | _ => exact False.elim h
  | Name x p =>
    refine tru_ok h fun hx h => ?_
    cases e : isG (look sc.l x) with
    | true => rw [e] at h; exact som_ok h fun d e2 h => GlobIs.ev (D := D + 1) K O hx (isG_is e) (TO.g e2) h
    | false => rw [e] at h; exact som_ok h fun d e2 h => ev_var O.s.base hx e2 h
  | BinOp => exact ev_bin (EvG.mono (S.e K O h) fun a σ1 q => EvG.mono (S.e K O q) fun b σ2 q2 => op_bin K q2)
  | UnaryOp => exact ev_un (EvG.mono (S.e K O h) fun a σ1 q => un_ok q)
  | BoolOp => exact wpBool_ok S K O h
  | Compare l ops rs p =>
    exact wpCmp_ok h (fun o r hm h => ev_cmp hm (EvG.mono (S.e K O h) fun a σ1 q => EvG.mono (S.e K O q) fun b σ2 q2 => cmp_ok K q2)) fun o1 o2 r1 r2 hm h => ev_chain2 hm (chn_ok S K O h)
  | IfExp => exact ev_ifexp (EvG.mono (S.t K O h) fun b σ1 q => brn_ifP q (S.e K O) (S.e K O))
  | Tuple => exact tru_ok h fun z h => ev_tuple (EvG.mono (wpL_ok S K O z h) fun ds σ1 q => tru_ok q fun e2 q => op_tuple (Nat.ble_eq.mp e2) q)
  | List => exact tru_ok h fun z h => ev_list (EvG.mono (wpL_ok S K O z h) fun ds σ1 q => tru_ok q fun e2 q => op_list (Nat.ble_eq.mp e2) q)
  | Attribute o n p =>
    refine tru_ok h fun hn h => ?_
    obtain ⟨x, p, rfl⟩ := isName_is hn
    exact ev_attr (EvG.mono (S.e K O h) fun a σ1 q => inst_ok TO q fun x C da A e q => op_attr K A ⟨_, _, e⟩ (e ▸ q))
  | Subscript x s p =>
    cases e : sliceOf s with
    | some z =>
      have h : k.e sc v σ x (slcK k sc v x z.1 z.2.1 z.2.2 Q) := by
        have h' : (match sliceOf s with | some z => k.e sc v σ x (slcK k sc v x z.1 z.2.1 z.2.2 Q) | none => k.e sc v σ x (subK k sc v s Q)) := h
        rw [e] at h'; exact h'
      obtain ⟨p, rfl⟩ := sliceOf_is e
      exact ev_slice K (EvG.mono (S.e K O h) fun o σ1 q => EvG.mono (wpOpt_ok S K O q) fun l σ2 q2 => EvG.mono (wpOpt_ok S K O q2) fun u σ3 q3 => EvG.mono (wpOpt_ok S K O q3) fun z σ4 q4 => q4)
    | none =>
      have h : k.e sc v σ x (subK k sc v s Q) := by
        have h' : (match sliceOf s with | some z => k.e sc v σ x (slcK k sc v x z.1 z.2.1 z.2.2 Q) | none => k.e sc v σ x (subK k sc v s Q)) := h
        rw [e] at h'; exact h'
      exact ev_sub (EvG.mono (S.e K O h) fun o σ1 q => EvG.mono (S.e K O q) fun i σ2 q2 => op_sub K (sliceOf_none e) q2)
  | Call f args kws pos =>
    cases kws with
    | nil => exact wpCall_ok TO S K O h
    | cons => exact False.elim h
  | ListComp elt gs scope p =>
    refine wpList_ok TO S K O h fun t iter ifs e z1 z2 z3 z4 q => ?_
    subst e
    exact ev_comp K O.fr z1 z2 z3 z4 q
  | Dict => exact (wpDict_ok S K O h).weak fun _ _ _ r => r.1
  | _ => exact False.elim h
theorem sound_t (TO : T.Ok w) (S : Sound w D k) (K : c.Ok w (D + 1)) (O : OkSc c env sc) {ex : Expr} {Q : Bool → Sto → Prop} (h : W.nt k sc v σ ex Q) : EvB c w env v σ (isTrue ex env (eval ex env)) Q := by
  have plain : ∀ {ex : Expr}, tru (plainTest ex) (k.e sc v σ ex (truK Q)) → EvB c w env v σ (isTrue ex env (eval ex env)) Q := fun h => tru_ok h fun hp h => ev_plain (plain_he hp) (EvG.mono (S.e K O h) fun d σ1 q => op_truthy q)
  cases ex with
  | BoolOp => exact wpTs_ok S K O h
  | UnaryOp op x p =>
    cases op with
    | Not => exact ev_tnot (S.t K O h)
    | _ => exact False.elim h
  | Compare l ops rs p =>
    exact wpCmp_ok h (fun o r hm h => ev_tcmp hm (EvG.mono (S.e K O h) fun a σ1 q => EvG.mono (S.e K O q) fun b σ2 q2 => cmp_ok K (cmpAll_mono q2 fun d σ3 q3 => op_truthy q3)))
      fun o1 o2 r1 r2 hm h => ev_tchain2 hm ((chn_ok S K O h).mono fun a σ1 q => EvG.mono q fun b σ2 q s m led u v I Ru Rv => bndG (q s m led u v I Ru Rv) fun _ _ _ _ _ _ I X R q => mkG I X R fun s m led v I R => bndG (q s m led v I R) fun _ y _ _ _ _ I X R q => mkG (b := y) I X R (by
        cases y with
        | true => exact EvG.mono (show Ev c w env _ _ (eval r2 env) _ from q) fun d σ5 q s m led u v I Ru Rv => bndG (q s m led u v I Ru Rv) fun _ _ _ _ _ _ I X R q => mkG I X R (op_truthy q)
        | false => exact q))
  | _ => exact plain h
end
end
section
set_option backward.match.sparseCases false
section
variable {T : Tabs} {w : World} {D : Nat} {k : W} {c : Cx} {env : Env} {v : Vars} {σ : Sto}
noncomputable def notTup (e : Expr) : Bool := match e with | .Tuple _ _ _ => false | _ => true
theorem swap_r {t e : Expr} (h : notTup e = true) : swappedStores [t] e env = pure none := by
  cases t <;> first | rfl | (cases e <;> first | rfl | (cases h; done))
theorem swap_l {t : Expr} {vs : List Expr} {n : Nat} {p : Pos} (hi : isTarget t = true) (h : tupOf t = none) : swappedStores [t] (.Tuple vs n p) env = pure none := by
  cases t <;> first | rfl | (cases h; done) | (cases hi; done)
theorem assignT_ok (TO : T.Ok w) (S : Sound w D k) (K : c.Ok w (D + 1)) {sc : List (Str × NameKind)} (O : FunOk c env sc) (hn : env.scope.names = sc) {t e : Expr} {pos : Pos} {Kf : Fl → Vars → Sto → Prop} (ht : isTarget t = true) (hc : isComp e = false) (hw : swappedStores [t] e env = pure none)
    (h : k.e ⟨true, sc⟩ v σ e (asgK T k sc t v Kf)) : StG c w env v σ (exec (.Assign [t] e pos) env) Kf :=
  st_assignT ht (swaps_no hc) hw (EvG.mono (S.e K (.f O hn) h) fun d σ1 q => wpA_ok TO S K (.f O hn) q)
theorem tupOf_is {t : Expr} {ts : List Expr} (h : tupOf t = some ts) : ∃ n p, t = .Tuple ts n p := by
  cases t with
  | Tuple ts n p => cases h; exact ⟨n, p, rfl⟩
  | _ => exact none_no h
theorem nameOf_is {t : Expr} {y : Str} (h : nameOf t = some y) : ∃ p, t = .Name y p := by
  cases t with
  | Name y p => cases h; exact ⟨p, rfl⟩
  | _ => exact none_no h
/-- what is known of a value by its kind -/
theorem valKind_is (e : Expr) : match valKind e with
    | .comp elt gs scope => ∃ p, e = .ListComp elt gs scope p
    | .tup vs => ∃ n p, e = .Tuple vs n p
    | .other => isComp e = false ∧ notTup e = true
    | .none => True := by
  cases e <;> first | exact ⟨rfl, rfl⟩ | exact ⟨_, rfl⟩ | exact ⟨_, _, rfl⟩ | exact trivial
theorem wpAsg1_ok (TO : T.Ok w) (S : Sound w D k) (K : c.Ok w (D + 1)) {sc : List (Str × NameKind)} (O : FunOk c env sc) (hn : env.scope.names = sc) {t e : Expr} {pos : Pos} {Kf : Fl → Vars → Sto → Prop} (h : wpAsg1 T k sc v σ t e Kf) : StG c w env v σ (exec (.Assign [t] e pos) env) Kf := by
  have i := valKind_is e
  unfold wpAsg1 at h
  cases ek : valKind e with
  | comp elt gs scope =>
    rw [ek] at h i
    obtain ⟨p, rfl⟩ := i
    refine som_ok h fun y ey h => ?_
    obtain ⟨py, rfl⟩ := nameOf_is ey
    refine wpList_ok TO S K (.f O hn) h fun t iter ifs e z1 z2 z3 z4 q => ?_
    subst e
    exact st_assignComp K O z1 z2 z3 z4 hn q
  | tup vs =>
    rw [ek] at h i
    obtain ⟨n, p, rfl⟩ := i
    cases et : tupOf t with
    | some ts =>
      rw [et] at h
      obtain ⟨n2, p2, rfl⟩ := tupOf_is et
      refine tru_ok h fun z h => ?_
      simp only [Bool.and_eq_true, Bool.not_eq_true'] at z
      have hw := swapped_is (env := env) (ts := ts) (vs := vs) (k := n2) (k2 := n) (p := p2) (p2 := p) O.hk hn z.1 z.2
      cases es : swapRoad sc ts vs with
      | some names =>
        rw [es] at h hw
        refine st_assignSw K O hw rfl (EvG.mono (S.e K (.f O hn) h) fun d σ1 q => ?_)
        cases d with
        | tup l => exact tru_ok q fun e2 q => ⟨l, rfl, Nat.eq_of_beq_eq_true e2, q⟩
        | _ => exact False.elim q
      | none =>
        rw [es] at h hw
        exact assignT_ok TO S K O hn rfl rfl hw h
    | none =>
      rw [et] at h
      exact tru_ok h fun ht h => assignT_ok TO S K O hn ht rfl (swap_l ht et) h
  | other =>
    rw [ek] at h i
    exact tru_ok h fun ht h => assignT_ok TO S K O hn ht i.1 (swap_r i.2) h
  | none => rw [ek] at h; exact False.elim h
theorem attr_mono {a : Dat} {n : Str} {σ : Sto} {Q Q' : Dat → Sto → Prop} (h : attrD a n σ Q) (q : ∀ d σ, Q d σ → Q' d σ) : attrD a n σ Q' := by
  cases a with
  | inst x C da =>
    obtain ⟨fs, ef, h⟩ := h
    refine ⟨fs, ef, som_ok h fun x e h => tru_ok h fun hd h => ?_⟩
    rw [e]
    show tru (isDataV x) _
    rw [hd]; exact q _ _ h
  | _ => exact h
theorem addD_is {x y : Dat} {K : Dat → Prop} {P : Prop} (h : addD x y K) (k : ∀ i j, x = .int i → y = .int j → K (.int (i + j)) → P) : P := by
  cases x with
  | int i =>
    cases y with
    | int j => exact k i j rfl rfl h
    | _ => exact False.elim h
  | _ => exact False.elim h
theorem aug_ok (TO : T.Ok w) (S : Sound w D k) (K : c.Ok w (D + 1)) {sc : List (Str × NameKind)} (O : FunOk c env sc) (hn : env.scope.names = sc) {t e : Expr} {pos : Pos} {Kf : Fl → Vars → Sto → Prop} (h : wpAug T k sc v σ t e Kf) : StG c w env v σ (exec (.AugAssign t .Add e pos) env) Kf := by
  cases t with
  | Name x p =>
    exact tru_ok h fun hx h => som_ok h fun a ea h => st_augName (ld_var O.toEnvOk hx ea (EvG.mono (S.e K (.f O hn) h) fun b σ2 q => addD_is q fun i j e1 e2 q => op_iadd ⟨i, j, e1, e2, as_name O q⟩))
  | Attribute o n p =>
    refine tru_ok h fun ho h => ?_
    exact st_augAttr (EvG.mono (S.e K (.f O hn) h) fun a σ1 q => inst_ok TO q fun x C da A ea q9 => by
      clear q
      subst ea
      exact op_attr K A ⟨_, _, rfl⟩ (attr_mono q9 fun d σ2 q2 => EvG.mono (S.e K (.f O hn) q2) fun b σ3 q3 => addD_is q3 fun i j e1 e2 q3 => op_iadd ⟨i, j, e1, e2, fun s m led u v I Ru Rv => op_set K A ⟨_, _, rfl⟩ q3 I Ru Rv⟩))
  | _ => exact False.elim h
theorem sound_s (TO : T.Ok w) (S : Sound w D k) (K : c.Ok w (D + 1)) {sc : List (Str × NameKind)} (O : FunOk c env sc) (hn : env.scope.names = sc) {st : Stmt} {Kf : Fl → Vars → Sto → Prop} (h : W.ns T k sc v σ st Kf) : StG c w env v σ (exec st env) Kf := by
  have OS : OkSc c env ⟨true, sc⟩ := .f O hn
  cases st with
  | Return e p =>
    cases e with
    | some e => exact st_ret (S.e K OS h)
    | none => exact False.elim h
  | If => exact st_if (EvG.mono (S.t K OS h) fun b σ1 q => brn_ifP q (wpB_ok S K O hn) (wpB_ok S K O hn))
  | Expr e p =>
    refine tru_ok h fun hc h => ?_
    refine st_expr O.toEnvOk (not_true hc) (EvG.mono (S.e K OS h) fun d σ1 q => ?_)
    cases d with
    | val v =>
      cases v with
      | none => exact ⟨rfl, q⟩
      | _ => exact False.elim q
    | _ => exact False.elim q
  | While t body orelse p =>
    cases orelse with
    | cons => exact False.elim h
    | nil =>
      obtain ⟨J, n, v0, ⟨hsub, hJ⟩, turn⟩ := (show whileP k sc t body Kf v σ from h).use
      refine fun s m led I => (?_ : StG c w env v0 σ _ Kf) s m led (I.subV hsub)
      refine st_while J (fun n v σ hj => EvG.mono (S.t K OS (turn n v σ hj)) fun b σ1 q => brn_ifP q (fun q => (wpB_ok S K O hn q).mono fun f v1 σ2 q3 => ?_) st_nil) hJ
      cases f with
      | _ => exact q3
  | For t iter body orelse p =>
    cases orelse with
    | cons => exact False.elim h
    | nil => exact tru_ok h fun hi h => st_for K O.he (not_true hi) (EvG.mono (S.e K OS h) fun xv σ1 q => SrcD_mono q fun ds re σ2 q2 => wpFor_ok TO S K O hn q2)
  | Try body hs orelse fin p =>
    cases hs with
    | nil => exact False.elim h
    | cons h0 hs =>
      cases fin with
      | nil => exact st_try ((wpB_ok S K O hn h).mono fun f v1 σ1 q => seq_st (fun v σ h => wpB_ok S K O hn h) q)
      | cons => exact False.elim h
  | AugAssign t op e p =>
    cases op with
    | Add => exact aug_ok TO S K O hn h
    | _ => exact False.elim h
  | Assign ts e p =>
    cases ts with
    | nil => exact False.elim h
    | cons t r =>
      cases r with
      | nil => exact wpAsg1_ok TO S K O hn h
      | cons => exact False.elim h
  | _ => exact False.elim h
theorem sound_W (TO : T.Ok w) (n : Nat) : Sound w D (wpW T w D n) := by
  induction n with
  | zero => exact ⟨fun _ _ h => False.elim h, fun _ _ h => False.elim h, fun _ _ _ h => False.elim h⟩
  | succ n ih => exact ⟨fun K O h => sound_e TO ih K O h, fun K O h => sound_t TO ih K O h, fun K O hn h => sound_s TO ih K O hn h⟩
end
end
section
set_option backward.match.sparseCases false
noncomputable def fnTab : List (Str × Addr) := [(Str.ofString "common_divisor", 93), (Str.ofString "fraction", 101), (Str.ofString "plus", 108), (Str.ofString "minus", 115), (Str.ofString "times", 122), (Str.ofString "divided", 129), (Str.ofString "absolute", 143), (Str.ofString "sign_of", 150), (Str.ofString "compare", 157), (Str.ofString "floor_of", 164), (Str.ofString "rounded", 171), (Str.ofString "root_floor", 178), (Str.ofString "NumberText", 216), (Str.ofString "whole_of", 227), (Str.ofString "read_exponent", 234), (Str.ofString "read_decimal", 241), (Str.ofString "spot_of", 419), (Str.ofString "is_flat", 433), (Str.ofString "flat_spots", 452), (Str.ofString "rounded_spot", 459), (Str.ofString "unlike_neighbours", 466), (Str.ofString "Flattener", 528), (Str.ofString "flattened", 540), (Str.ofString "Matrix", 599), (Str.ofString "identity", 610), (Str.ofString "nearest_root_share", 617), (Str.ofString "way_of", 631), (Str.ofString "moved_by", 638), (Str.ofString "turned_about", 645), (Str.ofString "normal_of", 659), (Str.ofString "parallel", 673), (Str.ofString "area_twice_of", 680), (Str.ofString "one_sense", 687), (Str.ofString "cap_spots", 790), (Str.ofString "Pattern", 854), (Str.ofString "dashed", 921), (Str.ofString "Style", 955), (Str.ofString "plain_line", 966), (Str.ofString "side_pieces", 971), (Str.ofString "join_pieces", 976), (Str.ofString "corners_of", 981), (Str.ofString "stroked_line", 988), (Str.ofString "stroked", 995), (Str.ofString "stretch_of", 1002), (Str.ofString "in_grains", 1009), (Str.ofString "line_style", 1014), (Str.ofString "line_contours", 1019), (Str.ofString "led_spot", 1026), (Str.ofString "unit_of", 1034), (Str.ofString "length", 1043), (Str.ofString "length_styles", 1043), (Str.ofString "Look", 1133), (Str.ofString "_law_pool", 1144), (Str.ofString "_law_take", 1151), (Str.ofString "_law_one", 1158), (Str.ofString "_law_normal", 1163), (Str.ofString "_law_sensed", 1168), (Str.ofString "_law_number", 1175), (Str.ofString "_law_length", 1182), (Str.ofString "_law_grains", 1189), (Str.ofString "_law_look", 1194), (Str.ofString "_law_style_right", 1199), (Str.ofString "_law_led", 1206), (Str.ofString "_law_line_right", 1211)]
noncomputable def biTab : List (Str × Bi) := [(Str.ofString "abs", .abs), (Str.ofString "len", .len), (Str.ofString "max", .max), (Str.ofString "min", .min), (Str.ofString "int", .int), (Str.ofString "str", .str), (Str.ofString "range", .range), (Str.ofString "tuple", .tuple), (Str.ofString "list", .list), (Str.ofString "sum", .sum)]
noncomputable def gTab : List (Str × Dat) := [("ZERO", .tup [.int 0, .int 1]), ("ONE", .tup [.int 1, .int 1]), ("HUNDRED", .tup [.int 100, .int 1]), ("DIGITS", .str "0123456789"), ("MOST_EXPONENT", .int 300), ("MOST_STEPS", .int 16)]
noncomputable def clsTab : List (Addr × Addr × List (Str × Addr) × List Str) := [(216, 192, [("is_one_of", 199), ("skip", 206), ("digits", 213)], ["text", "at"]), (528, 480, [("fine", 487), ("begin", 494), ("end", 499), ("go", 504), ("take", 518)], ["matrix", "most", "many", "grain", "bound", "contours", "start", "here", "spots"]), (599, 554, [("vector", 568), ("point", 575), ("determinant", 589)], ["a", "b", "c", "d", "e", "f"]), (854, 823, [("is_plain", 830)], ["lengths", "place", "left"]), (955, 938, [("half", 945), ("steps", 952)], ["width", "join", "cap", "limit", "dashes", "start"]), (1133, 1057, [("text", 1064), ("font_size", 1071), ("length", 1080), ("lengths", 1087), ("number", 1094)], ["values"])]
noncomputable def clsAt (C : Addr) : List (Addr × Addr × List (Str × Addr) × List Str) → Option (List (Str × Addr) × List Str)
  | [] => none
  | p :: r => match Nat.beq C p.1 with | true => some p.2.2 | false => clsAt C r
noncomputable def inS (x : Str) : List Str → Bool
  | [] => false
  | y :: r => match sEq x y with | true => true | false => inS x r
noncomputable def tabs : Tabs where
  g := gTab
  f := fnTab
  b := biTab
  a := fun C n => match clsAt C clsTab with | some p => inS n p.2 | none => false
  m := fun C n => match clsAt C clsTab with | some p => look p.1 n | none => none
noncomputable def FnsOk (w : World) : List (Str × Addr) → Prop
  | [] => True
  | p :: r => (nsIn (KK w) mainGlobals p.1 = some (some (.ref p.2)) ∧ keepIn (KK w) (.ref p.2) = true) ∧ FnsOk w r
theorem FnsOk.at {w : World} : ∀ {l : List (Str × Addr)} {x : Str} {a : Addr}, FnsOk w l → look l x = some a → nsIn (KK w) mainGlobals x = some (some (.ref a)) ∧ keepIn (KK w) (.ref a) = true
  | [], _, _, _, e => by cases e
  | (y, b) :: r, x, a, h, e => by
    rw [look_cons] at e
    by_cases q : x = y
    · subst q
      rw [if_pos rfl] at e
      cases e; exact h.1
    · rw [if_neg q] at e; exact h.2.at e
noncomputable def BisOk (w : World) : List (Str × Bi) → Prop
  | [] => True
  | p :: r => (nsIn (KK w) mainGlobals p.1 = some none ∧ bootBuiltins p.1 = some p.2.val ∧ p.1 ≠ "__name__") ∧ BisOk w r
theorem BisOk.at {w : World} : ∀ {l : List (Str × Bi)} {x : Str} {a : Bi}, BisOk w l → look l x = some a → nsIn (KK w) mainGlobals x = some none ∧ bootBuiltins x = some a.val ∧ x ≠ "__name__"
  | [], _, _, _, e => by cases e
  | (y, b) :: r, x, a, h, e => by
    rw [look_cons] at e
    by_cases q : x = y
    · subst q
      rw [if_pos rfl] at e
      cases e; exact h.1
    · rw [if_neg q] at e; exact h.2.at e
noncomputable def MsOk (w : World) (C : Addr) : List (Str × Addr) → Prop
  | [] => True
  | p :: r => (plainGet (KK w) C p.1 = true ∧ findIn (KK w) (.ref C) p.1 = some (some (.ref p.2)) ∧ isFn (KK w) (.ref p.2) = true ∧ keepIn (KK w) (.ref p.2) = true) ∧ MsOk w C r
theorem MsOk.at {w : World} {C : Addr} : ∀ {l : List (Str × Addr)} {x : Str} {a : Addr}, MsOk w C l → look l x = some a → plainGet (KK w) C x = true ∧ findIn (KK w) (.ref C) x = some (some (.ref a)) ∧ isFn (KK w) (.ref a) = true ∧ keepIn (KK w) (.ref a) = true
  | [], _, _, _, e => by cases e
  | (y, b) :: r, x, a, h, e => by
    rw [look_cons] at e
    by_cases q : x = y
    · subst q
      rw [if_pos rfl] at e
      cases e; exact h.1
    · rw [if_neg q] at e; exact h.2.at e
noncomputable def AsOk (w : World) (C : Addr) : List Str → Prop
  | [] => True
  | p :: r => (plainGet (KK w) C p = true ∧ findIn (KK w) (.ref C) p = some none ∧ takerIn (KK w) C p = some none) ∧ AsOk w C r
theorem AsOk.at {w : World} {C : Addr} : ∀ {l : List Str} {x : Str}, AsOk w C l → inS x l = true → plainGet (KK w) C x = true ∧ findIn (KK w) (.ref C) x = some none ∧ takerIn (KK w) C x = some none
  | [], _, _, e => by cases e
  | y :: r, x, h, e => by
    unfold inS at e
    cases q : sEq x y with
    | true => rw [sEq_iff.mp q]; exact h.1
    | false => rw [q] at e; exact h.2.at e
noncomputable def ClsOk (w : World) : List (Addr × Addr × List (Str × Addr) × List Str) → Prop
  | [] => True
  | p :: r => ((makesIn (KK w) p.1 = true ∧ findIn (KK w) (.ref p.1) "__init__" = some (some (.ref p.2.1)) ∧ isFn (KK w) (.ref p.2.1) = true ∧ hasDictIn (KK w) p.1 = true ∧ findIn (KK w) (.ref p.1) "__setattr__" = some (some (.builtin "object.__setattr__")) ∧ plainOver (KK w) p.1 = true) ∧ MsOk w p.1 p.2.2.1 ∧ AsOk w p.1 p.2.2.2) ∧ ClsOk w r
theorem ClsOk.at {w : World} {C : Addr} {q : List (Str × Addr) × List Str} : ∀ {l : List (Addr × Addr × List (Str × Addr) × List Str)}, ClsOk w l → clsAt C l = some q → (hasDictIn (KK w) C = true ∧ findIn (KK w) (.ref C) "__setattr__" = some (some (.builtin "object.__setattr__")) ∧ plainOver (KK w) C = true) ∧ MsOk w C q.1 ∧ AsOk w C q.2
  | [], _, e => by cases e
  | p :: r, h, e => by
    unfold clsAt at e
    cases z : Nat.beq C p.1 with
    | true =>
      rw [z] at e
      cases e
      rw [Nat.eq_of_beq_eq_true z]
      obtain ⟨⟨⟨_, _, _, a, b, d⟩, m, t⟩, _⟩ := h
      exact ⟨⟨a, b, d⟩, m, t⟩
    | false => rw [z] at e; exact h.2.at e
theorem fns_ok (w : World) : FnsOk w fnTab :=
  ⟨⟨by (show nsIn (Mine.frame.heap_1 w.params) mainGlobals "common_divisor" = some (some (.ref 93))); k_is, by (show keepIn (Mine.frame.heap_1 w.params) (.ref 93) = true); k_is⟩,
   ⟨by (show nsIn (Mine.frame.heap_1 w.params) mainGlobals "fraction" = some (some (.ref 101))); k_is, by (show keepIn (Mine.frame.heap_1 w.params) (.ref 101) = true); k_is⟩,
   ⟨by (show nsIn (Mine.frame.heap_1 w.params) mainGlobals "plus" = some (some (.ref 108))); k_is, by (show keepIn (Mine.frame.heap_1 w.params) (.ref 108) = true); k_is⟩,
   ⟨by (show nsIn (Mine.frame.heap_1 w.params) mainGlobals "minus" = some (some (.ref 115))); k_is, by (show keepIn (Mine.frame.heap_1 w.params) (.ref 115) = true); k_is⟩,
   ⟨by (show nsIn (Mine.frame.heap_1 w.params) mainGlobals "times" = some (some (.ref 122))); k_is, by (show keepIn (Mine.frame.heap_1 w.params) (.ref 122) = true); k_is⟩,
   ⟨by (show nsIn (Mine.frame.heap_1 w.params) mainGlobals "divided" = some (some (.ref 129))); k_is, by (show keepIn (Mine.frame.heap_1 w.params) (.ref 129) = true); k_is⟩,
   ⟨by (show nsIn (Mine.frame.heap_1 w.params) mainGlobals "absolute" = some (some (.ref 143))); k_is, by (show keepIn (Mine.frame.heap_1 w.params) (.ref 143) = true); k_is⟩,
   ⟨by (show nsIn (Mine.frame.heap_1 w.params) mainGlobals "sign_of" = some (some (.ref 150))); k_is, by (show keepIn (Mine.frame.heap_1 w.params) (.ref 150) = true); k_is⟩,
   ⟨by (show nsIn (Mine.frame.heap_1 w.params) mainGlobals "compare" = some (some (.ref 157))); k_is, by (show keepIn (Mine.frame.heap_1 w.params) (.ref 157) = true); k_is⟩,
   ⟨by (show nsIn (Mine.frame.heap_1 w.params) mainGlobals "floor_of" = some (some (.ref 164))); k_is, by (show keepIn (Mine.frame.heap_1 w.params) (.ref 164) = true); k_is⟩,
   ⟨by (show nsIn (Mine.frame.heap_1 w.params) mainGlobals "rounded" = some (some (.ref 171))); k_is, by (show keepIn (Mine.frame.heap_1 w.params) (.ref 171) = true); k_is⟩,
   ⟨by (show nsIn (Mine.frame.heap_1 w.params) mainGlobals "root_floor" = some (some (.ref 178))); k_is, by (show keepIn (Mine.frame.heap_1 w.params) (.ref 178) = true); k_is⟩,
   ⟨by (show nsIn (Mine.frame.heap_1 w.params) mainGlobals "NumberText" = some (some (.ref 216))); k_is, by (show keepIn (Mine.frame.heap_1 w.params) (.ref 216) = true); k_is⟩,
   ⟨by (show nsIn (Mine.frame.heap_1 w.params) mainGlobals "whole_of" = some (some (.ref 227))); k_is, by (show keepIn (Mine.frame.heap_1 w.params) (.ref 227) = true); k_is⟩,
   ⟨by (show nsIn (Mine.frame.heap_1 w.params) mainGlobals "read_exponent" = some (some (.ref 234))); k_is, by (show keepIn (Mine.frame.heap_1 w.params) (.ref 234) = true); k_is⟩,
   ⟨by (show nsIn (Mine.frame.heap_1 w.params) mainGlobals "read_decimal" = some (some (.ref 241))); k_is, by (show keepIn (Mine.frame.heap_1 w.params) (.ref 241) = true); k_is⟩,
   ⟨by (show nsIn (Mine.frame.heap_1 w.params) mainGlobals "spot_of" = some (some (.ref 419))); k_is, by (show keepIn (Mine.frame.heap_1 w.params) (.ref 419) = true); k_is⟩,
   ⟨by (show nsIn (Mine.frame.heap_1 w.params) mainGlobals "is_flat" = some (some (.ref 433))); k_is, by (show keepIn (Mine.frame.heap_1 w.params) (.ref 433) = true); k_is⟩,
   ⟨by (show nsIn (Mine.frame.heap_1 w.params) mainGlobals "flat_spots" = some (some (.ref 452))); k_is, by (show keepIn (Mine.frame.heap_1 w.params) (.ref 452) = true); k_is⟩,
   ⟨by (show nsIn (Mine.frame.heap_1 w.params) mainGlobals "rounded_spot" = some (some (.ref 459))); k_is, by (show keepIn (Mine.frame.heap_1 w.params) (.ref 459) = true); k_is⟩,
   ⟨by (show nsIn (Mine.frame.heap_1 w.params) mainGlobals "unlike_neighbours" = some (some (.ref 466))); k_is, by (show keepIn (Mine.frame.heap_1 w.params) (.ref 466) = true); k_is⟩,
   ⟨by (show nsIn (Mine.frame.heap_1 w.params) mainGlobals "Flattener" = some (some (.ref 528))); k_is, by (show keepIn (Mine.frame.heap_1 w.params) (.ref 528) = true); k_is⟩,
   ⟨by (show nsIn (Mine.frame.heap_1 w.params) mainGlobals "flattened" = some (some (.ref 540))); k_is, by (show keepIn (Mine.frame.heap_1 w.params) (.ref 540) = true); k_is⟩,
   ⟨by (show nsIn (Mine.frame.heap_1 w.params) mainGlobals "Matrix" = some (some (.ref 599))); k_is, by (show keepIn (Mine.frame.heap_1 w.params) (.ref 599) = true); k_is⟩,
   ⟨by (show nsIn (Mine.frame.heap_1 w.params) mainGlobals "identity" = some (some (.ref 610))); k_is, by (show keepIn (Mine.frame.heap_1 w.params) (.ref 610) = true); k_is⟩,
   ⟨by (show nsIn (Mine.frame.heap_1 w.params) mainGlobals "nearest_root_share" = some (some (.ref 617))); k_is, by (show keepIn (Mine.frame.heap_1 w.params) (.ref 617) = true); k_is⟩,
   ⟨by (show nsIn (Mine.frame.heap_1 w.params) mainGlobals "way_of" = some (some (.ref 631))); k_is, by (show keepIn (Mine.frame.heap_1 w.params) (.ref 631) = true); k_is⟩,
   ⟨by (show nsIn (Mine.frame.heap_1 w.params) mainGlobals "moved_by" = some (some (.ref 638))); k_is, by (show keepIn (Mine.frame.heap_1 w.params) (.ref 638) = true); k_is⟩,
   ⟨by (show nsIn (Mine.frame.heap_1 w.params) mainGlobals "turned_about" = some (some (.ref 645))); k_is, by (show keepIn (Mine.frame.heap_1 w.params) (.ref 645) = true); k_is⟩,
   ⟨by (show nsIn (Mine.frame.heap_1 w.params) mainGlobals "normal_of" = some (some (.ref 659))); k_is, by (show keepIn (Mine.frame.heap_1 w.params) (.ref 659) = true); k_is⟩,
   ⟨by (show nsIn (Mine.frame.heap_1 w.params) mainGlobals "parallel" = some (some (.ref 673))); k_is, by (show keepIn (Mine.frame.heap_1 w.params) (.ref 673) = true); k_is⟩,
   ⟨by (show nsIn (Mine.frame.heap_1 w.params) mainGlobals "area_twice_of" = some (some (.ref 680))); k_is, by (show keepIn (Mine.frame.heap_1 w.params) (.ref 680) = true); k_is⟩,
   ⟨by (show nsIn (Mine.frame.heap_1 w.params) mainGlobals "one_sense" = some (some (.ref 687))); k_is, by (show keepIn (Mine.frame.heap_1 w.params) (.ref 687) = true); k_is⟩,
   ⟨by (show nsIn (Mine.frame.heap_1 w.params) mainGlobals "cap_spots" = some (some (.ref 790))); k_is, by (show keepIn (Mine.frame.heap_1 w.params) (.ref 790) = true); k_is⟩,
   ⟨by (show nsIn (Mine.frame.heap_1 w.params) mainGlobals "Pattern" = some (some (.ref 854))); k_is, by (show keepIn (Mine.frame.heap_1 w.params) (.ref 854) = true); k_is⟩,
   ⟨by (show nsIn (Mine.frame.heap_1 w.params) mainGlobals "dashed" = some (some (.ref 921))); k_is, by (show keepIn (Mine.frame.heap_1 w.params) (.ref 921) = true); k_is⟩,
   ⟨by (show nsIn (Mine.frame.heap_1 w.params) mainGlobals "Style" = some (some (.ref 955))); k_is, by (show keepIn (Mine.frame.heap_1 w.params) (.ref 955) = true); k_is⟩,
   ⟨by (show nsIn (Mine.frame.heap_1 w.params) mainGlobals "plain_line" = some (some (.ref 966))); k_is, by (show keepIn (Mine.frame.heap_1 w.params) (.ref 966) = true); k_is⟩,
   ⟨by (show nsIn (Mine.frame.heap_1 w.params) mainGlobals "side_pieces" = some (some (.ref 971))); k_is, by (show keepIn (Mine.frame.heap_1 w.params) (.ref 971) = true); k_is⟩,
   ⟨by (show nsIn (Mine.frame.heap_1 w.params) mainGlobals "join_pieces" = some (some (.ref 976))); k_is, by (show keepIn (Mine.frame.heap_1 w.params) (.ref 976) = true); k_is⟩,
   ⟨by (show nsIn (Mine.frame.heap_1 w.params) mainGlobals "corners_of" = some (some (.ref 981))); k_is, by (show keepIn (Mine.frame.heap_1 w.params) (.ref 981) = true); k_is⟩,
   ⟨by (show nsIn (Mine.frame.heap_1 w.params) mainGlobals "stroked_line" = some (some (.ref 988))); k_is, by (show keepIn (Mine.frame.heap_1 w.params) (.ref 988) = true); k_is⟩,
   ⟨by (show nsIn (Mine.frame.heap_1 w.params) mainGlobals "stroked" = some (some (.ref 995))); k_is, by (show keepIn (Mine.frame.heap_1 w.params) (.ref 995) = true); k_is⟩,
   ⟨by (show nsIn (Mine.frame.heap_1 w.params) mainGlobals "stretch_of" = some (some (.ref 1002))); k_is, by (show keepIn (Mine.frame.heap_1 w.params) (.ref 1002) = true); k_is⟩,
   ⟨by (show nsIn (Mine.frame.heap_1 w.params) mainGlobals "in_grains" = some (some (.ref 1009))); k_is, by (show keepIn (Mine.frame.heap_1 w.params) (.ref 1009) = true); k_is⟩,
   ⟨by (show nsIn (Mine.frame.heap_1 w.params) mainGlobals "line_style" = some (some (.ref 1014))); k_is, by (show keepIn (Mine.frame.heap_1 w.params) (.ref 1014) = true); k_is⟩,
   ⟨by (show nsIn (Mine.frame.heap_1 w.params) mainGlobals "line_contours" = some (some (.ref 1019))); k_is, by (show keepIn (Mine.frame.heap_1 w.params) (.ref 1019) = true); k_is⟩,
   ⟨by (show nsIn (Mine.frame.heap_1 w.params) mainGlobals "led_spot" = some (some (.ref 1026))); k_is, by (show keepIn (Mine.frame.heap_1 w.params) (.ref 1026) = true); k_is⟩,
   ⟨by (show nsIn (Mine.frame.heap_1 w.params) mainGlobals "unit_of" = some (some (.ref 1034))); k_is, by (show keepIn (Mine.frame.heap_1 w.params) (.ref 1034) = true); k_is⟩,
   ⟨by (show nsIn (Mine.frame.heap_1 w.params) mainGlobals "length" = some (some (.ref 1043))); k_is, by (show keepIn (Mine.frame.heap_1 w.params) (.ref 1043) = true); k_is⟩,
   ⟨by (show nsIn (Mine.frame.heap_1 w.params) mainGlobals "length_styles" = some (some (.ref 1043))); k_is, by (show keepIn (Mine.frame.heap_1 w.params) (.ref 1043) = true); k_is⟩,
   ⟨by (show nsIn (Mine.frame.heap_1 w.params) mainGlobals "Look" = some (some (.ref 1133))); k_is, by (show keepIn (Mine.frame.heap_1 w.params) (.ref 1133) = true); k_is⟩,
   ⟨by (show nsIn (Mine.frame.heap_1 w.params) mainGlobals "_law_pool" = some (some (.ref 1144))); k_is, by (show keepIn (Mine.frame.heap_1 w.params) (.ref 1144) = true); k_is⟩,
   ⟨by (show nsIn (Mine.frame.heap_1 w.params) mainGlobals "_law_take" = some (some (.ref 1151))); k_is, by (show keepIn (Mine.frame.heap_1 w.params) (.ref 1151) = true); k_is⟩,
   ⟨by (show nsIn (Mine.frame.heap_1 w.params) mainGlobals "_law_one" = some (some (.ref 1158))); k_is, by (show keepIn (Mine.frame.heap_1 w.params) (.ref 1158) = true); k_is⟩,
   ⟨by (show nsIn (Mine.frame.heap_1 w.params) mainGlobals "_law_normal" = some (some (.ref 1163))); k_is, by (show keepIn (Mine.frame.heap_1 w.params) (.ref 1163) = true); k_is⟩,
   ⟨by (show nsIn (Mine.frame.heap_1 w.params) mainGlobals "_law_sensed" = some (some (.ref 1168))); k_is, by (show keepIn (Mine.frame.heap_1 w.params) (.ref 1168) = true); k_is⟩,
   ⟨by (show nsIn (Mine.frame.heap_1 w.params) mainGlobals "_law_number" = some (some (.ref 1175))); k_is, by (show keepIn (Mine.frame.heap_1 w.params) (.ref 1175) = true); k_is⟩,
   ⟨by (show nsIn (Mine.frame.heap_1 w.params) mainGlobals "_law_length" = some (some (.ref 1182))); k_is, by (show keepIn (Mine.frame.heap_1 w.params) (.ref 1182) = true); k_is⟩,
   ⟨by (show nsIn (Mine.frame.heap_1 w.params) mainGlobals "_law_grains" = some (some (.ref 1189))); k_is, by (show keepIn (Mine.frame.heap_1 w.params) (.ref 1189) = true); k_is⟩,
   ⟨by (show nsIn (Mine.frame.heap_1 w.params) mainGlobals "_law_look" = some (some (.ref 1194))); k_is, by (show keepIn (Mine.frame.heap_1 w.params) (.ref 1194) = true); k_is⟩,
   ⟨by (show nsIn (Mine.frame.heap_1 w.params) mainGlobals "_law_style_right" = some (some (.ref 1199))); k_is, by (show keepIn (Mine.frame.heap_1 w.params) (.ref 1199) = true); k_is⟩,
   ⟨by (show nsIn (Mine.frame.heap_1 w.params) mainGlobals "_law_led" = some (some (.ref 1206))); k_is, by (show keepIn (Mine.frame.heap_1 w.params) (.ref 1206) = true); k_is⟩,
   ⟨by (show nsIn (Mine.frame.heap_1 w.params) mainGlobals "_law_line_right" = some (some (.ref 1211))); k_is, by (show keepIn (Mine.frame.heap_1 w.params) (.ref 1211) = true); k_is⟩, trivial⟩
theorem bis_ok (w : World) : BisOk w biTab :=
  ⟨⟨by (show nsIn (Mine.frame.heap_1 w.params) mainGlobals "abs" = some none); k_is, by (show bootBuiltins "abs" = some (.builtin "abs")); first | rfl | decide +kernel | kernel_rfl!, by decide⟩,
   ⟨by (show nsIn (Mine.frame.heap_1 w.params) mainGlobals "len" = some none); k_is, by (show bootBuiltins "len" = some (.builtin "len")); first | rfl | decide +kernel | kernel_rfl!, by decide⟩,
   ⟨by (show nsIn (Mine.frame.heap_1 w.params) mainGlobals "max" = some none); k_is, by (show bootBuiltins "max" = some (.builtin "max")); first | rfl | decide +kernel | kernel_rfl!, by decide⟩,
   ⟨by (show nsIn (Mine.frame.heap_1 w.params) mainGlobals "min" = some none); k_is, by (show bootBuiltins "min" = some (.builtin "min")); first | rfl | decide +kernel | kernel_rfl!, by decide⟩,
   ⟨by (show nsIn (Mine.frame.heap_1 w.params) mainGlobals "int" = some none); k_is, by (show bootBuiltins "int" = some (.type "int")); first | rfl | decide +kernel | kernel_rfl!, by decide⟩,
   ⟨by (show nsIn (Mine.frame.heap_1 w.params) mainGlobals "str" = some none); k_is, by (show bootBuiltins "str" = some (.type "str")); first | rfl | decide +kernel | kernel_rfl!, by decide⟩,
   ⟨by (show nsIn (Mine.frame.heap_1 w.params) mainGlobals "range" = some none); k_is, by (show bootBuiltins "range" = some (.type "range")); first | rfl | decide +kernel | kernel_rfl!, by decide⟩,
   ⟨by (show nsIn (Mine.frame.heap_1 w.params) mainGlobals "tuple" = some none); k_is, by (show bootBuiltins "tuple" = some (.type "tuple")); first | rfl | decide +kernel | kernel_rfl!, by decide⟩,
   ⟨by (show nsIn (Mine.frame.heap_1 w.params) mainGlobals "list" = some none); k_is, by (show bootBuiltins "list" = some (.type "list")); first | rfl | decide +kernel | kernel_rfl!, by decide⟩,
   ⟨by (show nsIn (Mine.frame.heap_1 w.params) mainGlobals "sum" = some none); k_is, by (show bootBuiltins "sum" = some (.builtin "sum")); first | rfl | decide +kernel | kernel_rfl!, by decide⟩, trivial⟩
theorem cls_ok (w : World) : ClsOk w clsTab :=
  ⟨⟨⟨by (show makesIn (Mine.frame.heap_1 w.params) 216 = true); k_is, by (show findIn (Mine.frame.heap_1 w.params) (.ref 216) "__init__" = some (some (.ref 192))); k_is, by (show isFn (Mine.frame.heap_1 w.params) (.ref 192) = true); k_is, by (show hasDictIn (Mine.frame.heap_1 w.params) 216 = true); k_is, by (show findIn (Mine.frame.heap_1 w.params) (.ref 216) "__setattr__" = some (some (.builtin "object.__setattr__"))); k_is, by (show plainOver (Mine.frame.heap_1 w.params) 216 = true); k_is⟩,
    ⟨⟨by (show plainGet (Mine.frame.heap_1 w.params) 216 "is_one_of" = true); k_is, by (show findIn (Mine.frame.heap_1 w.params) (.ref 216) "is_one_of" = some (some (.ref 199))); k_is, by (show isFn (Mine.frame.heap_1 w.params) (.ref 199) = true); k_is, by (show keepIn (Mine.frame.heap_1 w.params) (.ref 199) = true); k_is⟩,
     ⟨by (show plainGet (Mine.frame.heap_1 w.params) 216 "skip" = true); k_is, by (show findIn (Mine.frame.heap_1 w.params) (.ref 216) "skip" = some (some (.ref 206))); k_is, by (show isFn (Mine.frame.heap_1 w.params) (.ref 206) = true); k_is, by (show keepIn (Mine.frame.heap_1 w.params) (.ref 206) = true); k_is⟩,
     ⟨by (show plainGet (Mine.frame.heap_1 w.params) 216 "digits" = true); k_is, by (show findIn (Mine.frame.heap_1 w.params) (.ref 216) "digits" = some (some (.ref 213))); k_is, by (show isFn (Mine.frame.heap_1 w.params) (.ref 213) = true); k_is, by (show keepIn (Mine.frame.heap_1 w.params) (.ref 213) = true); k_is⟩, trivial⟩,
    ⟨⟨by (show plainGet (Mine.frame.heap_1 w.params) 216 "text" = true); k_is, by (show findIn (Mine.frame.heap_1 w.params) (.ref 216) "text" = some none); k_is, by (show takerIn (Mine.frame.heap_1 w.params) 216 "text" = some none); k_is⟩,
     ⟨by (show plainGet (Mine.frame.heap_1 w.params) 216 "at" = true); k_is, by (show findIn (Mine.frame.heap_1 w.params) (.ref 216) "at" = some none); k_is, by (show takerIn (Mine.frame.heap_1 w.params) 216 "at" = some none); k_is⟩, trivial⟩⟩,
   ⟨⟨by (show makesIn (Mine.frame.heap_1 w.params) 528 = true); k_is, by (show findIn (Mine.frame.heap_1 w.params) (.ref 528) "__init__" = some (some (.ref 480))); k_is, by (show isFn (Mine.frame.heap_1 w.params) (.ref 480) = true); k_is, by (show hasDictIn (Mine.frame.heap_1 w.params) 528 = true); k_is, by (show findIn (Mine.frame.heap_1 w.params) (.ref 528) "__setattr__" = some (some (.builtin "object.__setattr__"))); k_is, by (show plainOver (Mine.frame.heap_1 w.params) 528 = true); k_is⟩,
    ⟨⟨by (show plainGet (Mine.frame.heap_1 w.params) 528 "fine" = true); k_is, by (show findIn (Mine.frame.heap_1 w.params) (.ref 528) "fine" = some (some (.ref 487))); k_is, by (show isFn (Mine.frame.heap_1 w.params) (.ref 487) = true); k_is, by (show keepIn (Mine.frame.heap_1 w.params) (.ref 487) = true); k_is⟩,
     ⟨by (show plainGet (Mine.frame.heap_1 w.params) 528 "begin" = true); k_is, by (show findIn (Mine.frame.heap_1 w.params) (.ref 528) "begin" = some (some (.ref 494))); k_is, by (show isFn (Mine.frame.heap_1 w.params) (.ref 494) = true); k_is, by (show keepIn (Mine.frame.heap_1 w.params) (.ref 494) = true); k_is⟩,
     ⟨by (show plainGet (Mine.frame.heap_1 w.params) 528 "end" = true); k_is, by (show findIn (Mine.frame.heap_1 w.params) (.ref 528) "end" = some (some (.ref 499))); k_is, by (show isFn (Mine.frame.heap_1 w.params) (.ref 499) = true); k_is, by (show keepIn (Mine.frame.heap_1 w.params) (.ref 499) = true); k_is⟩,
     ⟨by (show plainGet (Mine.frame.heap_1 w.params) 528 "go" = true); k_is, by (show findIn (Mine.frame.heap_1 w.params) (.ref 528) "go" = some (some (.ref 504))); k_is, by (show isFn (Mine.frame.heap_1 w.params) (.ref 504) = true); k_is, by (show keepIn (Mine.frame.heap_1 w.params) (.ref 504) = true); k_is⟩,
     ⟨by (show plainGet (Mine.frame.heap_1 w.params) 528 "take" = true); k_is, by (show findIn (Mine.frame.heap_1 w.params) (.ref 528) "take" = some (some (.ref 518))); k_is, by (show isFn (Mine.frame.heap_1 w.params) (.ref 518) = true); k_is, by (show keepIn (Mine.frame.heap_1 w.params) (.ref 518) = true); k_is⟩, trivial⟩,
    ⟨⟨by (show plainGet (Mine.frame.heap_1 w.params) 528 "matrix" = true); k_is, by (show findIn (Mine.frame.heap_1 w.params) (.ref 528) "matrix" = some none); k_is, by (show takerIn (Mine.frame.heap_1 w.params) 528 "matrix" = some none); k_is⟩,
     ⟨by (show plainGet (Mine.frame.heap_1 w.params) 528 "most" = true); k_is, by (show findIn (Mine.frame.heap_1 w.params) (.ref 528) "most" = some none); k_is, by (show takerIn (Mine.frame.heap_1 w.params) 528 "most" = some none); k_is⟩,
     ⟨by (show plainGet (Mine.frame.heap_1 w.params) 528 "many" = true); k_is, by (show findIn (Mine.frame.heap_1 w.params) (.ref 528) "many" = some none); k_is, by (show takerIn (Mine.frame.heap_1 w.params) 528 "many" = some none); k_is⟩,
     ⟨by (show plainGet (Mine.frame.heap_1 w.params) 528 "grain" = true); k_is, by (show findIn (Mine.frame.heap_1 w.params) (.ref 528) "grain" = some none); k_is, by (show takerIn (Mine.frame.heap_1 w.params) 528 "grain" = some none); k_is⟩,
     ⟨by (show plainGet (Mine.frame.heap_1 w.params) 528 "bound" = true); k_is, by (show findIn (Mine.frame.heap_1 w.params) (.ref 528) "bound" = some none); k_is, by (show takerIn (Mine.frame.heap_1 w.params) 528 "bound" = some none); k_is⟩,
     ⟨by (show plainGet (Mine.frame.heap_1 w.params) 528 "contours" = true); k_is, by (show findIn (Mine.frame.heap_1 w.params) (.ref 528) "contours" = some none); k_is, by (show takerIn (Mine.frame.heap_1 w.params) 528 "contours" = some none); k_is⟩,
     ⟨by (show plainGet (Mine.frame.heap_1 w.params) 528 "start" = true); k_is, by (show findIn (Mine.frame.heap_1 w.params) (.ref 528) "start" = some none); k_is, by (show takerIn (Mine.frame.heap_1 w.params) 528 "start" = some none); k_is⟩,
     ⟨by (show plainGet (Mine.frame.heap_1 w.params) 528 "here" = true); k_is, by (show findIn (Mine.frame.heap_1 w.params) (.ref 528) "here" = some none); k_is, by (show takerIn (Mine.frame.heap_1 w.params) 528 "here" = some none); k_is⟩,
     ⟨by (show plainGet (Mine.frame.heap_1 w.params) 528 "spots" = true); k_is, by (show findIn (Mine.frame.heap_1 w.params) (.ref 528) "spots" = some none); k_is, by (show takerIn (Mine.frame.heap_1 w.params) 528 "spots" = some none); k_is⟩, trivial⟩⟩,
   ⟨⟨by (show makesIn (Mine.frame.heap_1 w.params) 599 = true); k_is, by (show findIn (Mine.frame.heap_1 w.params) (.ref 599) "__init__" = some (some (.ref 554))); k_is, by (show isFn (Mine.frame.heap_1 w.params) (.ref 554) = true); k_is, by (show hasDictIn (Mine.frame.heap_1 w.params) 599 = true); k_is, by (show findIn (Mine.frame.heap_1 w.params) (.ref 599) "__setattr__" = some (some (.builtin "object.__setattr__"))); k_is, by (show plainOver (Mine.frame.heap_1 w.params) 599 = true); k_is⟩,
    ⟨⟨by (show plainGet (Mine.frame.heap_1 w.params) 599 "vector" = true); k_is, by (show findIn (Mine.frame.heap_1 w.params) (.ref 599) "vector" = some (some (.ref 568))); k_is, by (show isFn (Mine.frame.heap_1 w.params) (.ref 568) = true); k_is, by (show keepIn (Mine.frame.heap_1 w.params) (.ref 568) = true); k_is⟩,
     ⟨by (show plainGet (Mine.frame.heap_1 w.params) 599 "point" = true); k_is, by (show findIn (Mine.frame.heap_1 w.params) (.ref 599) "point" = some (some (.ref 575))); k_is, by (show isFn (Mine.frame.heap_1 w.params) (.ref 575) = true); k_is, by (show keepIn (Mine.frame.heap_1 w.params) (.ref 575) = true); k_is⟩,
     ⟨by (show plainGet (Mine.frame.heap_1 w.params) 599 "determinant" = true); k_is, by (show findIn (Mine.frame.heap_1 w.params) (.ref 599) "determinant" = some (some (.ref 589))); k_is, by (show isFn (Mine.frame.heap_1 w.params) (.ref 589) = true); k_is, by (show keepIn (Mine.frame.heap_1 w.params) (.ref 589) = true); k_is⟩, trivial⟩,
    ⟨⟨by (show plainGet (Mine.frame.heap_1 w.params) 599 "a" = true); k_is, by (show findIn (Mine.frame.heap_1 w.params) (.ref 599) "a" = some none); k_is, by (show takerIn (Mine.frame.heap_1 w.params) 599 "a" = some none); k_is⟩,
     ⟨by (show plainGet (Mine.frame.heap_1 w.params) 599 "b" = true); k_is, by (show findIn (Mine.frame.heap_1 w.params) (.ref 599) "b" = some none); k_is, by (show takerIn (Mine.frame.heap_1 w.params) 599 "b" = some none); k_is⟩,
     ⟨by (show plainGet (Mine.frame.heap_1 w.params) 599 "c" = true); k_is, by (show findIn (Mine.frame.heap_1 w.params) (.ref 599) "c" = some none); k_is, by (show takerIn (Mine.frame.heap_1 w.params) 599 "c" = some none); k_is⟩,
     ⟨by (show plainGet (Mine.frame.heap_1 w.params) 599 "d" = true); k_is, by (show findIn (Mine.frame.heap_1 w.params) (.ref 599) "d" = some none); k_is, by (show takerIn (Mine.frame.heap_1 w.params) 599 "d" = some none); k_is⟩,
     ⟨by (show plainGet (Mine.frame.heap_1 w.params) 599 "e" = true); k_is, by (show findIn (Mine.frame.heap_1 w.params) (.ref 599) "e" = some none); k_is, by (show takerIn (Mine.frame.heap_1 w.params) 599 "e" = some none); k_is⟩,
     ⟨by (show plainGet (Mine.frame.heap_1 w.params) 599 "f" = true); k_is, by (show findIn (Mine.frame.heap_1 w.params) (.ref 599) "f" = some none); k_is, by (show takerIn (Mine.frame.heap_1 w.params) 599 "f" = some none); k_is⟩, trivial⟩⟩,
   ⟨⟨by (show makesIn (Mine.frame.heap_1 w.params) 854 = true); k_is, by (show findIn (Mine.frame.heap_1 w.params) (.ref 854) "__init__" = some (some (.ref 823))); k_is, by (show isFn (Mine.frame.heap_1 w.params) (.ref 823) = true); k_is, by (show hasDictIn (Mine.frame.heap_1 w.params) 854 = true); k_is, by (show findIn (Mine.frame.heap_1 w.params) (.ref 854) "__setattr__" = some (some (.builtin "object.__setattr__"))); k_is, by (show plainOver (Mine.frame.heap_1 w.params) 854 = true); k_is⟩,
    ⟨⟨by (show plainGet (Mine.frame.heap_1 w.params) 854 "is_plain" = true); k_is, by (show findIn (Mine.frame.heap_1 w.params) (.ref 854) "is_plain" = some (some (.ref 830))); k_is, by (show isFn (Mine.frame.heap_1 w.params) (.ref 830) = true); k_is, by (show keepIn (Mine.frame.heap_1 w.params) (.ref 830) = true); k_is⟩, trivial⟩,
    ⟨⟨by (show plainGet (Mine.frame.heap_1 w.params) 854 "lengths" = true); k_is, by (show findIn (Mine.frame.heap_1 w.params) (.ref 854) "lengths" = some none); k_is, by (show takerIn (Mine.frame.heap_1 w.params) 854 "lengths" = some none); k_is⟩,
     ⟨by (show plainGet (Mine.frame.heap_1 w.params) 854 "place" = true); k_is, by (show findIn (Mine.frame.heap_1 w.params) (.ref 854) "place" = some none); k_is, by (show takerIn (Mine.frame.heap_1 w.params) 854 "place" = some none); k_is⟩,
     ⟨by (show plainGet (Mine.frame.heap_1 w.params) 854 "left" = true); k_is, by (show findIn (Mine.frame.heap_1 w.params) (.ref 854) "left" = some none); k_is, by (show takerIn (Mine.frame.heap_1 w.params) 854 "left" = some none); k_is⟩, trivial⟩⟩,
   ⟨⟨by (show makesIn (Mine.frame.heap_1 w.params) 955 = true); k_is, by (show findIn (Mine.frame.heap_1 w.params) (.ref 955) "__init__" = some (some (.ref 938))); k_is, by (show isFn (Mine.frame.heap_1 w.params) (.ref 938) = true); k_is, by (show hasDictIn (Mine.frame.heap_1 w.params) 955 = true); k_is, by (show findIn (Mine.frame.heap_1 w.params) (.ref 955) "__setattr__" = some (some (.builtin "object.__setattr__"))); k_is, by (show plainOver (Mine.frame.heap_1 w.params) 955 = true); k_is⟩,
    ⟨⟨by (show plainGet (Mine.frame.heap_1 w.params) 955 "half" = true); k_is, by (show findIn (Mine.frame.heap_1 w.params) (.ref 955) "half" = some (some (.ref 945))); k_is, by (show isFn (Mine.frame.heap_1 w.params) (.ref 945) = true); k_is, by (show keepIn (Mine.frame.heap_1 w.params) (.ref 945) = true); k_is⟩,
     ⟨by (show plainGet (Mine.frame.heap_1 w.params) 955 "steps" = true); k_is, by (show findIn (Mine.frame.heap_1 w.params) (.ref 955) "steps" = some (some (.ref 952))); k_is, by (show isFn (Mine.frame.heap_1 w.params) (.ref 952) = true); k_is, by (show keepIn (Mine.frame.heap_1 w.params) (.ref 952) = true); k_is⟩, trivial⟩,
    ⟨⟨by (show plainGet (Mine.frame.heap_1 w.params) 955 "width" = true); k_is, by (show findIn (Mine.frame.heap_1 w.params) (.ref 955) "width" = some none); k_is, by (show takerIn (Mine.frame.heap_1 w.params) 955 "width" = some none); k_is⟩,
     ⟨by (show plainGet (Mine.frame.heap_1 w.params) 955 "join" = true); k_is, by (show findIn (Mine.frame.heap_1 w.params) (.ref 955) "join" = some none); k_is, by (show takerIn (Mine.frame.heap_1 w.params) 955 "join" = some none); k_is⟩,
     ⟨by (show plainGet (Mine.frame.heap_1 w.params) 955 "cap" = true); k_is, by (show findIn (Mine.frame.heap_1 w.params) (.ref 955) "cap" = some none); k_is, by (show takerIn (Mine.frame.heap_1 w.params) 955 "cap" = some none); k_is⟩,
     ⟨by (show plainGet (Mine.frame.heap_1 w.params) 955 "limit" = true); k_is, by (show findIn (Mine.frame.heap_1 w.params) (.ref 955) "limit" = some none); k_is, by (show takerIn (Mine.frame.heap_1 w.params) 955 "limit" = some none); k_is⟩,
     ⟨by (show plainGet (Mine.frame.heap_1 w.params) 955 "dashes" = true); k_is, by (show findIn (Mine.frame.heap_1 w.params) (.ref 955) "dashes" = some none); k_is, by (show takerIn (Mine.frame.heap_1 w.params) 955 "dashes" = some none); k_is⟩,
     ⟨by (show plainGet (Mine.frame.heap_1 w.params) 955 "start" = true); k_is, by (show findIn (Mine.frame.heap_1 w.params) (.ref 955) "start" = some none); k_is, by (show takerIn (Mine.frame.heap_1 w.params) 955 "start" = some none); k_is⟩, trivial⟩⟩,
   ⟨⟨by (show makesIn (Mine.frame.heap_1 w.params) 1133 = true); k_is, by (show findIn (Mine.frame.heap_1 w.params) (.ref 1133) "__init__" = some (some (.ref 1057))); k_is, by (show isFn (Mine.frame.heap_1 w.params) (.ref 1057) = true); k_is, by (show hasDictIn (Mine.frame.heap_1 w.params) 1133 = true); k_is, by (show findIn (Mine.frame.heap_1 w.params) (.ref 1133) "__setattr__" = some (some (.builtin "object.__setattr__"))); k_is, by (show plainOver (Mine.frame.heap_1 w.params) 1133 = true); k_is⟩,
    ⟨⟨by (show plainGet (Mine.frame.heap_1 w.params) 1133 "text" = true); k_is, by (show findIn (Mine.frame.heap_1 w.params) (.ref 1133) "text" = some (some (.ref 1064))); k_is, by (show isFn (Mine.frame.heap_1 w.params) (.ref 1064) = true); k_is, by (show keepIn (Mine.frame.heap_1 w.params) (.ref 1064) = true); k_is⟩,
     ⟨by (show plainGet (Mine.frame.heap_1 w.params) 1133 "font_size" = true); k_is, by (show findIn (Mine.frame.heap_1 w.params) (.ref 1133) "font_size" = some (some (.ref 1071))); k_is, by (show isFn (Mine.frame.heap_1 w.params) (.ref 1071) = true); k_is, by (show keepIn (Mine.frame.heap_1 w.params) (.ref 1071) = true); k_is⟩,
     ⟨by (show plainGet (Mine.frame.heap_1 w.params) 1133 "length" = true); k_is, by (show findIn (Mine.frame.heap_1 w.params) (.ref 1133) "length" = some (some (.ref 1080))); k_is, by (show isFn (Mine.frame.heap_1 w.params) (.ref 1080) = true); k_is, by (show keepIn (Mine.frame.heap_1 w.params) (.ref 1080) = true); k_is⟩,
     ⟨by (show plainGet (Mine.frame.heap_1 w.params) 1133 "lengths" = true); k_is, by (show findIn (Mine.frame.heap_1 w.params) (.ref 1133) "lengths" = some (some (.ref 1087))); k_is, by (show isFn (Mine.frame.heap_1 w.params) (.ref 1087) = true); k_is, by (show keepIn (Mine.frame.heap_1 w.params) (.ref 1087) = true); k_is⟩,
     ⟨by (show plainGet (Mine.frame.heap_1 w.params) 1133 "number" = true); k_is, by (show findIn (Mine.frame.heap_1 w.params) (.ref 1133) "number" = some (some (.ref 1094))); k_is, by (show isFn (Mine.frame.heap_1 w.params) (.ref 1094) = true); k_is, by (show keepIn (Mine.frame.heap_1 w.params) (.ref 1094) = true); k_is⟩, trivial⟩,
    ⟨⟨by (show plainGet (Mine.frame.heap_1 w.params) 1133 "values" = true); k_is, by (show findIn (Mine.frame.heap_1 w.params) (.ref 1133) "values" = some none); k_is, by (show takerIn (Mine.frame.heap_1 w.params) 1133 "values" = some none); k_is⟩, trivial⟩⟩, trivial⟩
theorem g_ZERO (w : World) : GlobIs w "ZERO" (.tup [.int 0, .int 1]) := by
  have h : ∃ t u k, (Mine.frame.heap_1 w.params).lookup 85 = some (tupO [.int 0 t, .int 1 u] k) := ⟨_, _, _, by k_is⟩
  obtain ⟨t, u, k, h⟩ := h
  exact ⟨.ref 85, .inl (by (show nsIn (Mine.frame.heap_1 w.params) mainGlobals "ZERO" = some (some (.ref 85))); k_is), fun led => .tup ⟨k, .inr h⟩ (.cons (.int _ _) (.cons (.int _ _) .nil))⟩
theorem g_ONE (w : World) : GlobIs w "ONE" (.tup [.int 1, .int 1]) := by
  have h : ∃ t u k, (Mine.frame.heap_1 w.params).lookup 86 = some (tupO [.int 1 t, .int 1 u] k) := ⟨_, _, _, by k_is⟩
  obtain ⟨t, u, k, h⟩ := h
  exact ⟨.ref 86, .inl (by (show nsIn (Mine.frame.heap_1 w.params) mainGlobals "ONE" = some (some (.ref 86))); k_is), fun led => .tup ⟨k, .inr h⟩ (.cons (.int _ _) (.cons (.int _ _) .nil))⟩
theorem g_HUNDRED (w : World) : GlobIs w "HUNDRED" (.tup [.int 100, .int 1]) := by
  have h : ∃ t u k, (Mine.frame.heap_1 w.params).lookup 1027 = some (tupO [.int 100 t, .int 1 u] k) := ⟨_, _, _, by k_is⟩
  obtain ⟨t, u, k, h⟩ := h
  exact ⟨.ref 1027, .inl (by (show nsIn (Mine.frame.heap_1 w.params) mainGlobals "HUNDRED" = some (some (.ref 1027))); k_is), fun led => .tup ⟨k, .inr h⟩ (.cons (.int _ _) (.cons (.int _ _) .nil))⟩
theorem g_DIGITS (w : World) : GlobIs w "DIGITS" (.str "0123456789") := by
  have h : ∃ t, nsIn (Mine.frame.heap_1 w.params) mainGlobals "DIGITS" = some (some (.str "0123456789" t)) := ⟨_, by k_is⟩
  obtain ⟨t, h⟩ := h
  exact ⟨_, .inl h, fun led => .str _ t⟩
theorem g_MOST_EXPONENT (w : World) : GlobIs w "MOST_EXPONENT" (.int 300) := by
  have h : ∃ t, nsIn (Mine.frame.heap_1 w.params) mainGlobals "MOST_EXPONENT" = some (some (.int 300 t)) := ⟨_, by k_is⟩
  obtain ⟨t, h⟩ := h
  exact ⟨_, .inl h, fun led => .int _ t⟩
theorem g_MOST_STEPS (w : World) : GlobIs w "MOST_STEPS" (.int 16) := by
  have h : ∃ t, nsIn (Mine.frame.heap_1 w.params) mainGlobals "MOST_STEPS" = some (some (.int 16 t)) := ⟨_, by k_is⟩
  obtain ⟨t, h⟩ := h
  exact ⟨_, .inl h, fun led => .int _ t⟩
theorem tabs_ok (w : World) : tabs.Ok w where
  g := fun {x d} h => by
    have hm := look_mem (show look gTab x = some d from h)
    simp only [gTab, List.mem_cons, Prod.mk.injEq, List.not_mem_nil, or_false] at hm
    rcases hm with ⟨rfl, rfl⟩ | ⟨rfl, rfl⟩ | ⟨rfl, rfl⟩ | ⟨rfl, rfl⟩ | ⟨rfl, rfl⟩ | ⟨rfl, rfl⟩
    · exact g_ZERO w
    · exact g_ONE w
    · exact g_HUNDRED w
    · exact g_DIGITS w
    · exact g_MOST_EXPONENT w
    · exact g_MOST_STEPS w
  f := fun {x a} h => by
    obtain ⟨h1, h2⟩ := (fns_ok w).at h
    exact ⟨⟨_, .inl h1, fun led => .val _⟩, .inl h2⟩
  b := fun {x b} h => by
    obtain ⟨h1, h2, h3⟩ := (bis_ok w).at h
    exact ⟨_, .inr ⟨h1, h2, h3⟩, fun led => .val _⟩
  a := fun {C n} h => by
    replace h : (match clsAt C clsTab with | some p => inS n p.2 | none => false) = true := h
    split at h
    · rename_i p e
      obtain ⟨⟨h1, h2, h3⟩, _, t⟩ := (cls_ok w).at e
      obtain ⟨t1, t2, t3⟩ := t.at h
      exact ⟨t1, h1, t2, h2, h3, t3⟩
    · cases h
  m := fun {C n f} h => by
    replace h : (match clsAt C clsTab with | some p => look p.1 n | none => none) = some f := h
    split at h
    · rename_i p e
      obtain ⟨_, m, _⟩ := (cls_ok w).at e
      obtain ⟨t1, t2, t3, t4⟩ := m.at h
      exact ⟨⟨t1, t2, t3⟩, .inl t4⟩
    · cases h
end
section
set_option backward.match.sparseCases false
section
variable {w : World} {fd : FuncData} {led : Led} {s : Shared}
noncomputable def BindP (w : World) (fd : FuncData) (ds : List Dat) (vars0 : Vars) : Prop :=
  ∀ (s : Shared) led vs, (KK w).In s.heap → RVs w led vs ds → ∃ binds, BindsTo s fd ⟨vs, []⟩ binds ∧ RKs w led binds vars0
theorem bind0 (h : bindArgs fd ⟨[], []⟩ = pure []) : BindP w fd [] [] := fun s led vs X r => by
  obtain rfl := r.inv0
  exact ⟨_, .of_eq h, .nil⟩
theorem bind1 {n1 : Str} {d1 : Dat} (h : ∀ v1, bindArgs fd ⟨[v1], []⟩ = pure [(n1, v1)]) : BindP w fd [d1] [(n1, d1)] := fun s led vs X r => by
  obtain ⟨v1, _, rfl, r1, r⟩ := r.inv
  obtain rfl := r.inv0
  exact ⟨_, .of_eq (h v1), .cons r1 .nil⟩
theorem bind2 {n1 n2 : Str} {d1 d2 : Dat} (h : ∀ v1 v2, bindArgs fd ⟨[v1, v2], []⟩ = pure [(n1, v1), (n2, v2)]) : BindP w fd [d1, d2] [(n1, d1), (n2, d2)] := fun s led vs X r => by
  obtain ⟨v1, _, rfl, r1, r⟩ := r.inv
  obtain ⟨v2, _, rfl, r2, r⟩ := r.inv
  obtain rfl := r.inv0
  exact ⟨_, .of_eq (h v1 v2), .cons r1 (.cons r2 .nil)⟩
theorem bind3 {n1 n2 n3 : Str} {d1 d2 d3 : Dat} (h : ∀ v1 v2 v3, bindArgs fd ⟨[v1, v2, v3], []⟩ = pure [(n1, v1), (n2, v2), (n3, v3)]) : BindP w fd [d1, d2, d3] [(n1, d1), (n2, d2), (n3, d3)] := fun s led vs X r => by
  obtain ⟨v1, _, rfl, r1, r⟩ := r.inv
  obtain ⟨v2, _, rfl, r2, r⟩ := r.inv
  obtain ⟨v3, _, rfl, r3, r⟩ := r.inv
  obtain rfl := r.inv0
  exact ⟨_, .of_eq (h v1 v2 v3), .cons r1 (.cons r2 (.cons r3 .nil))⟩
theorem bind4 {n1 n2 n3 n4 : Str} {d1 d2 d3 d4 : Dat} (h : ∀ v1 v2 v3 v4, bindArgs fd ⟨[v1, v2, v3, v4], []⟩ = pure [(n1, v1), (n2, v2), (n3, v3), (n4, v4)]) : BindP w fd [d1, d2, d3, d4] [(n1, d1), (n2, d2), (n3, d3), (n4, d4)] := fun s led vs X r => by
  obtain ⟨v1, _, rfl, r1, r⟩ := r.inv
  obtain ⟨v2, _, rfl, r2, r⟩ := r.inv
  obtain ⟨v3, _, rfl, r3, r⟩ := r.inv
  obtain ⟨v4, _, rfl, r4, r⟩ := r.inv
  obtain rfl := r.inv0
  exact ⟨_, .of_eq (h v1 v2 v3 v4), .cons r1 (.cons r2 (.cons r3 (.cons r4 .nil)))⟩
theorem bind5 {n1 n2 n3 n4 n5 : Str} {d1 d2 d3 d4 d5 : Dat} (h : ∀ v1 v2 v3 v4 v5, bindArgs fd ⟨[v1, v2, v3, v4, v5], []⟩ = pure [(n1, v1), (n2, v2), (n3, v3), (n4, v4), (n5, v5)]) : BindP w fd [d1, d2, d3, d4, d5] [(n1, d1), (n2, d2), (n3, d3), (n4, d4), (n5, d5)] := fun s led vs X r => by
  obtain ⟨v1, _, rfl, r1, r⟩ := r.inv
  obtain ⟨v2, _, rfl, r2, r⟩ := r.inv
  obtain ⟨v3, _, rfl, r3, r⟩ := r.inv
  obtain ⟨v4, _, rfl, r4, r⟩ := r.inv
  obtain ⟨v5, _, rfl, r5, r⟩ := r.inv
  obtain rfl := r.inv0
  exact ⟨_, .of_eq (h v1 v2 v3 v4 v5), .cons r1 (.cons r2 (.cons r3 (.cons r4 (.cons r5 .nil))))⟩
theorem bind7 {n1 n2 n3 n4 n5 n6 n7 : Str} {d1 d2 d3 d4 d5 d6 d7 : Dat} (h : ∀ v1 v2 v3 v4 v5 v6 v7, bindArgs fd ⟨[v1, v2, v3, v4, v5, v6, v7], []⟩ = pure [(n1, v1), (n2, v2), (n3, v3), (n4, v4), (n5, v5), (n6, v6), (n7, v7)]) : BindP w fd [d1, d2, d3, d4, d5, d6, d7] [(n1, d1), (n2, d2), (n3, d3), (n4, d4), (n5, d5), (n6, d6), (n7, d7)] := fun s led vs X r => by
  obtain ⟨v1, _, rfl, r1, r⟩ := r.inv
  obtain ⟨v2, _, rfl, r2, r⟩ := r.inv
  obtain ⟨v3, _, rfl, r3, r⟩ := r.inv
  obtain ⟨v4, _, rfl, r4, r⟩ := r.inv
  obtain ⟨v5, _, rfl, r5, r⟩ := r.inv
  obtain ⟨v6, _, rfl, r6, r⟩ := r.inv
  obtain ⟨v7, _, rfl, r7, r⟩ := r.inv
  obtain rfl := r.inv0
  exact ⟨_, .of_eq (h v1 v2 v3 v4 v5 v6 v7), .cons r1 (.cons r2 (.cons r3 (.cons r4 (.cons r5 (.cons r6 (.cons r7 .nil))))))⟩
theorem bindK2 {n1 n2 : Str} {d1 d2 : Dat} (h : ∀ (s : Shared) v1 v2, (KK w).In s.heap → BindsTo s fd ⟨[v1, v2], []⟩ [(n1, v1), (n2, v2)]) : BindP w fd [d1, d2] [(n1, d1), (n2, d2)] := fun s led vs X r => by
  obtain ⟨v1, _, rfl, r1, r⟩ := r.inv
  obtain ⟨v2, _, rfl, r2, r⟩ := r.inv
  obtain rfl := r.inv0
  exact ⟨_, h s v1 v2 X, .cons r1 (.cons r2 .nil)⟩
theorem bindK3 {n1 n2 n3 : Str} {d1 d2 d3 : Dat} (h : ∀ (s : Shared) v1 v2 v3, (KK w).In s.heap → BindsTo s fd ⟨[v1, v2, v3], []⟩ [(n1, v1), (n2, v2), (n3, v3)]) : BindP w fd [d1, d2, d3] [(n1, d1), (n2, d2), (n3, d3)] := fun s led vs X r => by
  obtain ⟨v1, _, rfl, r1, r⟩ := r.inv
  obtain ⟨v2, _, rfl, r2, r⟩ := r.inv
  obtain ⟨v3, _, rfl, r3, r⟩ := r.inv
  obtain rfl := r.inv0
  exact ⟨_, h s v1 v2 v3 X, .cons r1 (.cons r2 (.cons r3 .nil))⟩
theorem bindK7 {n1 n2 n3 n4 n5 n6 n7 : Str} {d1 d2 d3 d4 d5 d6 d7 : Dat} (h : ∀ (s : Shared) v1 v2 v3 v4 v5 v6 v7, (KK w).In s.heap → BindsTo s fd ⟨[v1, v2, v3, v4, v5, v6, v7], []⟩ [(n1, v1), (n2, v2), (n3, v3), (n4, v4), (n5, v5), (n6, v6), (n7, v7)]) : BindP w fd [d1, d2, d3, d4, d5, d6, d7] [(n1, d1), (n2, d2), (n3, d3), (n4, d4), (n5, d5), (n6, d6), (n7, d7)] := fun s led vs X r => by
  obtain ⟨v1, _, rfl, r1, r⟩ := r.inv
  obtain ⟨v2, _, rfl, r2, r⟩ := r.inv
  obtain ⟨v3, _, rfl, r3, r⟩ := r.inv
  obtain ⟨v4, _, rfl, r4, r⟩ := r.inv
  obtain ⟨v5, _, rfl, r5, r⟩ := r.inv
  obtain ⟨v6, _, rfl, r6, r⟩ := r.inv
  obtain ⟨v7, _, rfl, r7, r⟩ := r.inv
  obtain rfl := r.inv0
  exact ⟨_, h s v1 v2 v3 v4 v5 v6 v7 X, .cons r1 (.cons r2 (.cons r3 (.cons r4 (.cons r5 (.cons r6 (.cons r7 .nil))))))⟩
theorem enterW {D n : Nat} {σ : Sto} {Q : Dat → Sto → Prop} {ds : List Dat} {vars0 : Vars} {f : Addr}
    {name qual : Str} {params : Arguments} {body : List Stmt} {scope : Scope} {dV kV doc pm cdv ct oc : Value} {an od : Option Addr} {osl : Array (Option Value)} (ho : (KK w).lookup f = some ⟨oc, od, .func (fnOf name qual params body scope dV kV doc pm an cdv ct), osl⟩) (hcd : codeIn (KK w) cdv qual = true)
    (hbind : BindP w (fnOf name qual params body scope dV kV doc pm an cdv ct) ds vars0)
    (hsc : (scopeOk scope.names (vars0.map (·.1)) && !scope.isCoroutine && !scope.isGenerator && decide (scope.kind = .function)) = true)
    (h : wpB (wpW tabs w D n) scope.names body vars0 σ (EndF Q)) : CodeP w (D + 2) f ds σ Q := by
  simp only [Bool.and_eq_true, Bool.not_eq_true', decide_eq_true_eq] at hsc
  obtain ⟨⟨⟨h1, h2⟩, h3⟩, h4⟩ := hsc
  exact enterV ho hcd hbind h1 h2 h3 h4 fun c env K O hn => wpB_ok (sound_W (tabs_ok w) n) K O hn h
end
end
section
set_option backward.match.sparseCases false
noncomputable def Bd (k : Nat) (x : Int) : Prop := x.natAbs < 2 ^ k
theorem Bd.bits {k : Nat} {x : Int} (h : Bd k x) : Builtin.Int.intBits x ≤ k := by
  unfold Builtin.Int.intBits
  split
  · exact Nat.zero_le _
  · rename_i h0
    have hp : x.natAbs ≠ 0 := fun e => h0 (by have := Int.natAbs_eq_zero.mp e; subst this; rfl)
    exact (Nat.log2_lt hp).mpr h
theorem Bd.mul {j k : Nat} {x y : Int} (hx : Bd j x) (hy : Bd k y) : Bd (j + k) (x * y) := by
  unfold Bd at *
  rw [Int.natAbs_mul, Nat.pow_add]
  exact Nat.mul_lt_mul'' hx hy
theorem Bd.le {j k : Nat} {x : Int} (hx : Bd j x) (h : j ≤ k) : Bd k x := Nat.lt_of_lt_of_le hx (Nat.pow_le_pow_right (by decide) h)
theorem Bd.add {k : Nat} {x y : Int} (hx : Bd k x) (hy : Bd k y) : Bd (k + 1) (x + y) := by
  unfold Bd at *
  rw [Nat.pow_succ]
  omega
theorem Bd.sub {k : Nat} {x y : Int} (hx : Bd k x) (hy : Bd k y) : Bd (k + 1) (x - y) := by
  unfold Bd at *
  rw [Nat.pow_succ]
  omega
theorem Bd.neg {k : Nat} {x : Int} (hx : Bd k x) : Bd k (-x) := by
  unfold Bd at *
  omega
theorem Bd.of_abs {k : Nat} {x y : Int} (hy : Bd k y) (h : x.natAbs ≤ y.natAbs) : Bd k x := Nat.lt_of_le_of_lt h hy
theorem Bd.mulOk {j k : Nat} {x y : Int} (hx : Bd j x) (hy : Bd k y) (h : j + k ≤ 134217728) : IntMulOk x y := IntMulOk.of_le hx.bits hy.bits h
theorem Bd.lit {k : Nat} {x : Int} (h : Nat.blt x.natAbs (2 ^ k) = true) : Bd k x := Nat.blt_eq.mp h
/-- the ratio of two pairs -/
theorem Bd.py {k : Nat} {x y : Int} (h : Bd k y) (hk : k ≤ 9000) : Builtin.divisionGoesByPylong x y = false := by
  refine PyProof.noPylong_of_log2 ?_
  by_cases h0 : y.natAbs = 0
  · rw [h0]; decide +kernel
  · exact Nat.lt_of_lt_of_le ((Nat.log2_lt h0).mpr h) hk
theorem gcd_step {a b : Int} (hb : 0 < b) (ha : 0 ≤ a) : Int.gcd b (a.fmod b) = Int.gcd a b := by
  obtain ⟨m, rfl⟩ := Int.eq_ofNat_of_zero_le ha
  obtain ⟨n, rfl⟩ := Int.eq_ofNat_of_zero_le (Int.le_of_lt hb)
  rw [Int.fmod_eq_emod_of_nonneg _ (by omega), ← Int.natCast_emod, Int.gcd_natCast_natCast, Int.gcd_natCast_natCast, Nat.gcd_comm m n, Nat.gcd_rec n m, Nat.gcd_comm]
theorem gcd_pos_of {x y i : Int} (e : i = (Int.gcd x y : Nat)) (hy : 0 < y) : 0 < i := by
  subst e
  have : Int.gcd x y ≠ 0 := fun h => by have := (Int.gcd_eq_zero_iff.mp h).2; omega
  omega
theorem gcd_le_of {k : Nat} {x y i : Int} (e : i = (Int.gcd x y : Nat)) (hy : 0 < y) (hb : Bd k y) : Bd k i := by
  subst e
  have h : Int.gcd x y ≤ y.natAbs := by rw [Int.gcd]; exact Nat.gcd_le_right _ (by omega)
  exact hb.of_abs (by omega)
theorem frac_post {k : Nat} {x y i : Int} (e : i = (Int.gcd x y : Nat)) (hy : 0 < y) (hi : 0 < i) (hx : Bd k x) (hb : Bd k y) :
    0 < y.fdiv i ∧ Bd k (x.fdiv i) ∧ Bd k (y.fdiv i) ∧ x.fdiv i * y = x * y.fdiv i := by
  have d1 : i ∣ x := e ▸ Int.gcd_dvd_left ..
  have d2 : i ∣ y := e ▸ Int.gcd_dvd_right ..
  rw [Int.fdiv_eq_ediv_of_nonneg _ (by omega), Int.fdiv_eq_ediv_of_nonneg _ (by omega)]
  obtain ⟨p, rfl⟩ := d1
  obtain ⟨q, rfl⟩ := d2
  have hne : i ≠ 0 := by omega
  rw [Int.mul_ediv_cancel_left _ hne, Int.mul_ediv_cancel_left _ hne]
  have h1 : ∀ z : Int, z.natAbs ≤ (i * z).natAbs := fun z => by
    rw [Int.natAbs_mul]
    exact Nat.le_mul_of_pos_left _ (by omega)
  refine ⟨?_, hx.of_abs (h1 p), hb.of_abs (h1 q), ?_⟩
  · exact Int.pos_of_mul_pos_right hy hi
  · rw [← Int.mul_assoc, Int.mul_comm p i]
theorem sq_le_self {f n : Int} (h1 : 1 ≤ f) (h : f * f ≤ n) : f ≤ n := by
  have : f * 1 ≤ f * f := Int.mul_le_mul_of_nonneg_left h1 (by omega)
  omega
theorem bd_two {k : Nat} {f n : Int} (hn : Bd k n) (h0 : 0 ≤ f) (h : f ≤ 2 * n) : Bd (k + 1) f := by
  unfold Bd at *
  rw [Nat.pow_succ]
  omega
theorem fdiv_q {n f : Int} (hf : 1 ≤ f) : f * (n.fdiv f) ≤ n ∧ n < f * (n.fdiv f) + f := by
  have h1 := Int.mul_fdiv_add_fmod n f
  have h2 := Int.fmod_nonneg_of_pos n (show 0 < f by omega)
  have h3 := Int.fmod_lt_of_pos n (show 0 < f by omega)
  omega
theorem four_mul_le (f q : Int) : 4 * (f * q) ≤ (f + q) * (f + q) := by
  have h : 0 ≤ (f - q) * (f - q) := by
    rcases Int.le_total 0 (f - q) with h | h
    · exact Int.mul_nonneg h h
    · have := Int.mul_nonneg (show 0 ≤ -(f - q) by omega) (show 0 ≤ -(f - q) by omega)
      rwa [Int.neg_mul_neg] at this
  have e : (f + q) * (f + q) = (f - q) * (f - q) + 4 * (f * q) := by grind
  omega
theorem newton_lo {n f l : Int} (hf : 1 ≤ f) (hn : 1 ≤ n) (hl : l = (f + n.fdiv f).fdiv 2) : 1 ≤ l ∧ n < (l + 1) * (l + 1) := by
  obtain ⟨h1, h2⟩ := fdiv_q (n := n) hf
  generalize n.fdiv f = q at *
  have hq0 : 0 ≤ q := by
    rcases Int.lt_or_le q 0 with h | h
    · exfalso
      have : f * q ≤ f * (-1) := Int.mul_le_mul_of_nonneg_left (by omega) (by omega)
      omega
    · exact h
  have h3 := four_mul_le f (q + 1)
  have e3 : f * (q + 1) = f * q + f := by grind
  rw [Int.fdiv_eq_ediv_of_nonneg _ (by omega)] at hl
  have h4 : f + (q + 1) ≤ 2 * (l + 1) := by omega
  have h5 : (f + (q + 1)) * (f + (q + 1)) ≤ (2 * (l + 1)) * (2 * (l + 1)) := Int.mul_le_mul h4 h4 (by omega) (by omega)
  have e5 : (2 * (l + 1)) * (2 * (l + 1)) = 4 * ((l + 1) * (l + 1)) := by grind
  refine ⟨?_, by omega⟩
  rcases Int.lt_or_le l 1 with h | h
  · exfalso
    have hl0 : l = 0 := by omega
    have : f + q ≤ 1 := by omega
    have hf1 : f = 1 := by omega
    subst hf1
    omega
  · exact h
theorem newton_stop {n f l : Int} (hf : 1 ≤ f) (hl : l = (f + n.fdiv f).fdiv 2) (h : ¬ l < f) : f * f ≤ n := by
  obtain ⟨h1, _⟩ := fdiv_q (n := n) hf
  generalize n.fdiv f = q at *
  rw [Int.fdiv_eq_ediv_of_nonneg _ (by omega)] at hl
  have : f * f ≤ f * q := Int.mul_le_mul_of_nonneg_left (by omega) (by omega)
  omega
noncomputable def IsRoot (n r : Int) : Prop := 0 ≤ r ∧ r * r ≤ n ∧ n < (r + 1) * (r + 1)
theorem grow_gt {f : Int} {n : Int} (h0 : 1 ≤ f) (h : ¬ f * f ≤ n) : n < (f + 1) * (f + 1) := by
  have e : (f + 1) * (f + 1) = f * f + 2 * f + 1 := by grind
  omega
noncomputable def NRS (share sq i : Int) : Prop := ∃ r, IsRoot ((4 * (share.natAbs : Int) * share.natAbs).fdiv sq) r ∧ i = if share < 0 then -((r + 1).fdiv 2) else (r + 1).fdiv 2
theorem abs_if (x : Int) : (if x < 0 then -x else x) = (x.natAbs : Int) := by split <;> omega
theorem nrs_arg0 {s q : Int} (hs : 0 ≤ s) (hq : 0 < q) : 0 ≤ (s).fdiv q := by
  rw [Int.fdiv_eq_ediv_of_nonneg _ (by omega)]
  exact Int.ediv_nonneg hs (by omega)
theorem fdiv_bd {k : Nat} {s q : Int} (hs : 0 ≤ s) (hq : 0 < q) (hb : Bd k s) : Bd k (s.fdiv q) := by
  refine hb.of_abs ?_
  have h1 := nrs_arg0 hs hq
  have h2 : s.fdiv q ≤ s := by
    rw [Int.fdiv_eq_ediv_of_nonneg _ (by omega)]
    exact Int.ediv_le_self _ hs
  omega
theorem nn_mul (m : Nat) : (0 : Int) ≤ 4 * m * m := Int.mul_nonneg (by omega) (by omega)
theorem root_le {n r s : Int} (h : IsRoot n r) (h1 : n ≤ 4 * s * s) (hs : 0 ≤ s) : r ≤ 2 * s := by
  obtain ⟨h0, h2, _⟩ := h
  rcases Int.lt_or_le (2 * s) r with q | q
  · exfalso
    have : (2 * s + 1) * (2 * s + 1) ≤ r * r := Int.mul_le_mul (by omega) (by omega) (by omega) h0
    have e : (2 * s + 1) * (2 * s + 1) = 4 * s * s + 4 * s + 1 := by grind
    omega
  · exact q
theorem nrs_bd {k : Nat} {share sq i : Int} (hq : 0 < sq) (hb : Bd k share) (h : NRS share sq i) : Bd k i := by
  obtain ⟨r, hr, hi⟩ := h
  have h1 : (4 * (share.natAbs : Int) * share.natAbs).fdiv sq ≤ 4 * (share.natAbs : Int) * share.natAbs := by
    rw [Int.fdiv_eq_ediv_of_nonneg _ (by omega)]
    exact Int.ediv_le_self _ (nn_mul _)
  have h2 := root_le hr h1 (by omega)
  have h3 := hr.1
  rw [Int.fdiv_eq_ediv_of_nonneg _ (by omega)] at hi
  refine hb.of_abs ?_
  split at hi <;> omega
theorem sq_pos {x y : Int} (h : x ≠ 0) : 0 < x * x + y * y := by
  have h1 : 0 ≤ y * y := by
    rcases Int.le_total 0 y with h | h
    · exact Int.mul_nonneg h h
    · have := Int.mul_nonneg (show 0 ≤ -y by omega) (show 0 ≤ -y by omega)
      rwa [Int.neg_mul_neg] at this
  have h2 : 0 < x * x := by
    rcases Int.lt_or_gt_of_ne h with h | h
    · have := Int.mul_pos (show 0 < -x by omega) (show 0 < -x by omega)
      rwa [Int.neg_mul_neg] at this
    · exact Int.mul_pos h h
  omega
theorem sq_bd {k : Nat} {x y : Int} (hx : Bd k x) (hy : Bd k y) : Bd (k + k + 1) (x * x + y * y) := Bd.add (Bd.mul hx hx) (Bd.mul hy hy)
@[irreducible] noncomputable def val (n d : Int) : Rat := (n : Rat) / (d : Rat)
theorem cast_ne {d : Int} (h : 0 < d) : (d : Rat) ≠ 0 := by
  intro e
  have : (d : Rat) = ((0 : Int) : Rat) := e
  rw [Rat.intCast_inj] at this
  omega
theorem val_eq_iff {n d t b : Int} (hd : 0 < d) (hb : 0 < b) : val n d = val t b ↔ n * b = t * d := by
  unfold val
  have h1 := cast_ne hd
  have h2 := cast_ne hb
  constructor
  · intro h
    have e : (n : Rat) * b = t * d := by grind
    rw [← Rat.intCast_mul, ← Rat.intCast_mul, Rat.intCast_inj] at e
    exact e
  · intro h
    have e : (n : Rat) * b = t * d := by rw [← Rat.intCast_mul, ← Rat.intCast_mul, h]
    grind
theorem val_mul {n d na da nb db : Int} (hd : 0 < d) (ha : 0 < da) (hb : 0 < db) (h : n * (da * db) = na * nb * d) : val n d = val na da * val nb db := by
  have e := (val_eq_iff hd (Int.mul_pos ha hb)).mpr h
  rw [e]
  unfold val
  have h1 := cast_ne ha
  have h2 := cast_ne hb
  rw [Rat.intCast_mul, Rat.intCast_mul]
  grind
theorem val_add {n d na da nb db : Int} (hd : 0 < d) (ha : 0 < da) (hb : 0 < db) (h : n * (da * db) = (na * db + nb * da) * d) : val n d = val na da + val nb db := by
  have e := (val_eq_iff hd (Int.mul_pos ha hb)).mpr h
  rw [e]
  unfold val
  have h1 := cast_ne ha
  have h2 := cast_ne hb
  rw [Rat.intCast_mul, Rat.intCast_add, Rat.intCast_mul, Rat.intCast_mul]
  grind
theorem val_sub {n d na da nb db : Int} (hd : 0 < d) (ha : 0 < da) (hb : 0 < db) (h : n * (da * db) = (na * db - nb * da) * d) : val n d = val na da - val nb db := by
  have e := (val_eq_iff hd (Int.mul_pos ha hb)).mpr h
  rw [e]
  unfold val
  have h1 := cast_ne ha
  have h2 := cast_ne hb
  rw [Rat.intCast_mul, Rat.intCast_sub, Rat.intCast_mul, Rat.intCast_mul]
  grind
theorem round_eq {n d t b : Int} (hd : 0 < d) (hb : 0 < b) (h : val n d = val t b) : (2 * n + d).fdiv (2 * d) = (2 * t + b).fdiv (2 * b) := by
  have e := (val_eq_iff hd hb).mp h
  rw [Int.fdiv_eq_ediv_of_nonneg _ (by omega), Int.fdiv_eq_ediv_of_nonneg _ (by omega)]
  have h1 : (2 * n + d) / (2 * d) = ((2 * n + d) * b) / (2 * d * b) := (Int.mul_ediv_mul_of_pos_left _ _ hb).symm
  have h2 : (2 * t + b) / (2 * b) = ((2 * t + b) * d) / (2 * b * d) := (Int.mul_ediv_mul_of_pos_left _ _ hd).symm
  rw [h1, h2]
  have e1 : (2 * n + d) * b = (2 * t + b) * d := by grind
  have e2 : 2 * d * b = 2 * b * d := by grind
  rw [e1, e2]
noncomputable def Rnd (q : Rat) (i : Int) : Prop := ∃ n d, 0 < d ∧ val n d = q ∧ i = (2 * n + d).fdiv (2 * d)
theorem Rnd.eq {q : Rat} {i t b : Int} (h : Rnd q i) (hb : 0 < b) (e : val t b = q) : i = (2 * t + b).fdiv (2 * b) := by
  obtain ⟨n, d, h0, h1, rfl⟩ := h
  exact round_eq h0 hb (h1.trans e.symm)
theorem rnd_bd {k : Nat} {n d : Int} (h0 : 0 < d) (h1 : Bd k n) : Bd (k + 1) ((2 * n + d).fdiv (2 * d)) := by
  rw [Int.fdiv_eq_ediv_of_nonneg _ (by omega)]
  have a1 : (2 * n + d) / (2 * d) ≤ n.natAbs := by
    have : (2 * n + d) / (2 * d) < n.natAbs + 1 := by
      apply Int.ediv_lt_of_lt_mul (by omega)
      have : (n.natAbs : Int) * 1 ≤ n.natAbs * d := Int.mul_le_mul_of_nonneg_left (by omega) (by omega)
      have e : ((n.natAbs : Int) + 1) * (2 * d) = 2 * (n.natAbs * d) + 2 * d := by grind
      omega
    omega
  have a2 : -(n.natAbs : Int) ≤ (2 * n + d) / (2 * d) := by
    apply Int.le_ediv_of_mul_le (by omega)
    have : (n.natAbs : Int) * 1 ≤ n.natAbs * d := Int.mul_le_mul_of_nonneg_left (by omega) (by omega)
    have e : -(n.natAbs : Int) * (2 * d) = -(2 * (n.natAbs * d)) := by grind
    omega
  refine (h1.le (Nat.le_succ k)).of_abs (by omega)
end
/-- bounds of bits -/
local macro_rules | `(tactic| wtm_at "vbd") => `(tactic| first | with_reducible assumption | exact Bd.mul (by wtm_at "vbd") (by wtm_at "vbd") | exact Bd.sub (by wtm_at "vbd") (by wtm_at "vbd") | exact Bd.neg (by wtm_at "vbd") | exact Bd.lit (k := 64) (by decide) | exact Bd.lit (k := 8) (by decide))
theorem neS {σ : Sto} {a b : Addr} {m : MO} (h1 : σ a = none) (h2 : σ b = some m) : b ≠ a := fun e => by rw [e, h1] at h2; cases h2
theorem beq_g {b : Bool} (h : b = true) : b = true := h
theorem mulOk_g {x y : Int} (h : IntMulOk x y) : IntMulOk x y := h
theorem exg {α : Sort u} {p : α → Prop} (h : ∃ x, p x) : ∃ x, p x := h
/-- what stands at an address -/
local macro_rules | `(tactic| wtm_at "sto") => `(tactic| first
  | with_reducible assumption
  | exact Sto.set_same
  | (refine (Sto.set_ne ?_).trans ?_; (first | with_reducible assumption | exact neS (by with_reducible assumption) (by wtm_at "sto") | exact Ne.symm (neS (by with_reducible assumption) (by wtm_at "sto"))); wtm_at "sto"))
local macro_rules | `(tactic| wtm_at "vside") => `(tactic| first
  | ((with_reducible refine beq_g ?_); exact rfl)
  | with_reducible assumption
  | ((with_reducible refine exg ?_); first | exact ⟨_, by wtm_at "sto"⟩ | exact ⟨_, by wtm_at "sto", by first | exact trivial | exact rfl⟩)
  | ((with_reducible refine And.intro ?_ ?_) <;> wtm_at "vside")
  | (refine mulOk_g ?_; exact Bd.mulOk (by wtm_at "vbd") (by wtm_at "vbd") (by omega))
  | omega
  | (simp only [List.length_cons, List.length_nil]; omega)
  | exact rfl | exact trivial | exact of_decide_eq_true rfl | decide)
/-- data as compared -/
local macro_rules | `(tactic| wtm_at "pds") => `(tactic| first | exact Pd.int _ | exact Pd.str _ | exact Pd.bool _ | exact Pd.none | exact Pd.nil | (apply Pd.cons; (focus wtm_at "pds"); wtm_at "pds") | (apply Pd.list; (focus wtm_at "sto"); wtm_at "pds"))
local macro_rules | `(tactic| wtm_at "vc0") => `(tactic| first
  | (refine brn_t ?_)
  | (refine brn_f ?_)
  | (refine ForX.un ?_)
  | (refine CmpX.un ?_)
  | (refine And.intro ?_ ?_; (focus (wtm_at "vside"; done)))
  | (refine exg ?_; first
    | (refine Exists.intro _ (And.intro (by wtm_at "sto") ?_))
    | (refine Exists.intro _ (Exists.intro _ (And.intro (by wtm_at "sto") (And.intro (by wtm_at "sto") (And.intro (by wtm_at "vside") ?_))))))
  | (refine eqvD_g ?_; (refine Exists.intro _ (Exists.intro _ (And.intro (And.intro (by wtm_at "pds") (And.intro (by wtm_at "pds") (And.intro (by exact rfl) (by exact rfl)))) ?_))))
  | (refine fun _ _ => ?_))
/-- what stood stands -/
noncomputable def SLe (σ σ' : Sto) : Prop := ∀ a m, σ a = some m → σ' a = some m
theorem SLe.rfl {σ : Sto} : SLe σ σ := fun _ _ h => h
theorem SLe.trans {σ σ' σ'' : Sto} (h : SLe σ σ') (h' : SLe σ' σ'') : SLe σ σ'' := fun a m e => h' a m (h a m e)
theorem SLe.upd {σ σ' : Sto} {a : Addr} {x : MO} (h : SLe σ σ') (e : σ a = none) : SLe σ (σ'.set a x) := fun b m eb => by
  rw [Sto.set_ne (neS e eb)]; exact h b m eb
theorem none_of_set {σ : Sto} {a b : Addr} {x : MO} (h : (σ.set a x) b = none) : σ b = none := by
  by_cases e : b = a
  · subst e; rw [Sto.set_same] at h; cases h
  · rw [Sto.set_ne e] at h; exact h
theorem none_of_le {σ σ' : Sto} {b : Addr} (l : SLe σ σ') (h : σ' b = none) : σ b = none := by
  cases e : σ b with
  | none => rfl
  | some m => rw [l b m e] at h; cases h
section
variable {w : World} {D : Nat} {σ : Sto} {Q : Dat → Sto → Prop}
theorem c_cd {x y : Int} (hy : 0 ≤ y) (h : Q (.int (Int.gcd x y : Nat)) σ) : CallP w (D + 2) (.ref 93) [.int x, .int y] σ Q := by
  (refine CodeP.call ?_; (refine' enterW (n := 60) (vars0 := [("one", .int x), ("other", .int y)]) ?ho ?hc ?hb ?hs ?hh; (case ho => (show List.lookup _ (Mine.frame.heap_1 (World.params _)) = _; k_is)); (case hc => (show codeIn (Mine.frame.heap_1 (World.params _)) _ _ = true; k_is)); (case hb => exact bind2 fun _ _ => by kernel_rfl!); (case hs => exact rfl)))
  refine whl (fun n v σ' => ∃ a b, v = ([("first", .int a), ("second", .int b)] : Vars) ∧ σ = σ' ∧ n = b.toNat ∧ 0 ≤ a ∧ 0 ≤ b ∧ Int.gcd a b = Int.gcd x y) y.toNat [("first", .int (x.natAbs : Int)), ("second", .int y)] ?_ ⟨_, _, rfl, rfl, rfl, ?_, hy, ?_⟩ ?_
  · exact ⟨rfl, rfl, trivial⟩
  · omega
  · rw [Int.gcd, Int.gcd, Int.natAbs_natCast]
  · rintro n _ _ ⟨a, b, rfl, rfl, rfl, ha, hb, e⟩
    refine brn_ (fun h1 => ?_) (fun h1 => ?_)
    · have h1' : 0 < b := of_decide_eq_true h1
      refine And.intro (by omega) ?_
      have q0 := Int.fmod_nonneg_of_pos a h1'
      have q1 := Int.fmod_lt_of_pos a h1'
      exact ⟨_, [("first", .int b), ("second", .int (a.fmod b))], by omega, ⟨rfl, rfl, trivial⟩, _, _, rfl, rfl, rfl, hb, q0, (gcd_step h1' ha).trans e⟩
    · have h1' : b = 0 := by have := of_decide_eq_false h1; omega
      subst h1'
      rw [Int.gcd_zero_right] at e
      rw [← e, show ((a.natAbs : Nat) : Int) = a by omega] at h
      exact h
theorem c_fraction {k : Nat} (hk9 : k ≤ 9000) {x y : Int} (hy : 0 < y) (hbx : Bd k x) (hby : Bd k y) (h : ∀ n d, 0 < d → Bd k n → Bd k d → n * y = x * d → Q (.tup [.int n, .int d]) σ) : CallP w (D + 4) (.ref 101) [.int x, .int y] σ Q := by
  (refine CodeP.call ?_; (refine' enterW (n := 60) (vars0 := [("top", .int x), ("bottom", .int y)]) ?ho ?hc ?hb ?hs ?hh; (case ho => (show List.lookup _ (Mine.frame.heap_1 (World.params _)) = _; k_is)); (case hc => (show codeIn (Mine.frame.heap_1 (World.params _)) _ _ = true; k_is)); (case hb => exact bindK2 fun s v1 v2 X => binds_K X rfl (by (show List.lookup _ (Mine.frame.heap_1 (World.params _)) = _); k_is) rfl rfl (by kernel_rfl!)); (case hs => exact rfl)))
  refine brn_ (fun h1 => absurd (of_decide_eq_true h1) (by omega)) (fun h1 => ?_)
  refine brn_ (fun h1 => absurd (of_decide_eq_true h1) (by omega)) (fun h1 => ?_)
  refine c_cd (by omega) ?_
  have g0 := gcd_pos_of (x := x) rfl hy
  have gb := gcd_le_of (x := x) rfl hy hby
  have f := frac_post rfl hy g0 hbx hby
  refine And.intro ⟨by omega, gb.py hk9⟩ ?_
  refine And.intro ⟨by omega, gb.py hk9⟩ ?_
  exact h _ _ f.1 f.2.1 f.2.2.1 f.2.2.2
end
section
set_option backward.match.sparseCases false
/-- a fraction: its top and its bottom -/
structure F (k : Nat) (q : Rat) (n d : Int) : Prop where
  pos : 0 < d
  bn : Bd k n
  bd : Bd k d
  v : val n d = q
theorem F.up {j k : Nat} {q : Rat} {n d : Int} (h : F j q n d) (l : j ≤ k) : F k q n d := ⟨h.pos, h.bn.le l, h.bd.le l, h.v⟩
theorem val_one {n : Int} : val n 1 = (n : Rat) := by unfold val; grind
theorem cr1 {x : Int} (h : 0 ≤ x) (h1 : ¬x = 0) : 1 ≤ x := by omega
theorem cr2 {x : Int} (h : 1 ≤ x) : 1 ≤ 2 * x := by omega
theorem cr3 {x : Int} (h : 1 ≤ x) : 0 ≤ x := by omega
theorem cr4 {x f : Int} (e4 : 1 ≤ f) (e5 : f ≤ 2 * x) (q : f ≤ x) : (2 * x + 1 - f * 2).toNat < (2 * x + 1 - f).toNat ∧ 1 ≤ f * 2 ∧ f * 2 ≤ 2 * x := by omega
theorem cr5 {x : Int} (h : 1 ≤ x) : x ≠ 0 := by omega
theorem cr6 {k : Nat} (h : k ≤ 8000) : k + 1 ≤ 9000 := by omega
theorem cr7 {l f : Int} (h : 1 ≤ l) (k : l < f) : l.toNat < f.toNat := by omega
section
variable {w : World} {D : Nat} {σ : Sto} {Q : Dat → Sto → Prop}
theorem c_times {j k : Nat} {p q : Rat} {a b c d : Int} (h1 : F j p a b) (h2 : F k q c d) (hk : j + k ≤ 8000) (h : ∀ n e, F (j + k) (p * q) n e → Q (.tup [.int n, .int e]) σ) : CallP w (D + 6) (.ref 122) [.tup [.int a, .int b], .tup [.int c, .int d]] σ Q := by
  obtain ⟨p1, b1, b2, rfl⟩ := h1
  obtain ⟨p2, b3, b4, rfl⟩ := h2
  (refine CodeP.call ?_; (refine' enterW (n := 60) (vars0 := [("a", .tup [.int a, .int b]), ("b", .tup [.int c, .int d])]) ?ho ?hc ?hb ?hs ?hh; (case ho => (show List.lookup _ (Mine.frame.heap_1 (World.params _)) = _; k_is)); (case hc => (show codeIn (Mine.frame.heap_1 (World.params _)) _ _ = true; k_is)); (case hb => exact bind2 fun _ _ => by kernel_rfl!); (case hs => exact rfl)))
  (repeat (first | wtm_at "vc0" | ((conv => whnf); wtm_at "vc0")))
  exact c_fraction (k := j + k) (by omega) (Int.mul_pos p1 p2) (Bd.mul b1 b3) (Bd.mul b2 b4) fun n e z1 z2 z3 z4 => h n e ⟨z1, z2, z3, val_mul z1 p1 p2 z4⟩
theorem c_plus {j k : Nat} {p q : Rat} {a b c d : Int} (h1 : F j p a b) (h2 : F k q c d) (hk : j + k ≤ 8000) (h : ∀ n e, F (j + k + 1) (p + q) n e → Q (.tup [.int n, .int e]) σ) : CallP w (D + 6) (.ref 108) [.tup [.int a, .int b], .tup [.int c, .int d]] σ Q := by
  obtain ⟨p1, b1, b2, rfl⟩ := h1
  obtain ⟨p2, b3, b4, rfl⟩ := h2
  (refine CodeP.call ?_; (refine' enterW (n := 60) (vars0 := [("a", .tup [.int a, .int b]), ("b", .tup [.int c, .int d])]) ?ho ?hc ?hb ?hs ?hh; (case ho => (show List.lookup _ (Mine.frame.heap_1 (World.params _)) = _; k_is)); (case hc => (show codeIn (Mine.frame.heap_1 (World.params _)) _ _ = true; k_is)); (case hb => exact bind2 fun _ _ => by kernel_rfl!); (case hs => exact rfl)))
  (repeat (first | wtm_at "vc0" | ((conv => whnf); wtm_at "vc0")))
  exact c_fraction (k := j + k + 1) (by omega) (Int.mul_pos p1 p2) (Bd.add (Bd.mul b1 b4) (Nat.add_comm k j ▸ Bd.mul b3 b2)) ((Bd.mul b2 b4).le (Nat.le_succ _)) fun n e z1 z2 z3 z4 => h n e ⟨z1, z2, z3, val_add z1 p1 p2 z4⟩
theorem c_minus {j k : Nat} {p q : Rat} {a b c d : Int} (h1 : F j p a b) (h2 : F k q c d) (hk : j + k ≤ 8000) (h : ∀ n e, F (j + k + 1) (p - q) n e → Q (.tup [.int n, .int e]) σ) : CallP w (D + 6) (.ref 115) [.tup [.int a, .int b], .tup [.int c, .int d]] σ Q := by
  obtain ⟨p1, b1, b2, rfl⟩ := h1
  obtain ⟨p2, b3, b4, rfl⟩ := h2
  (refine CodeP.call ?_; (refine' enterW (n := 60) (vars0 := [("a", .tup [.int a, .int b]), ("b", .tup [.int c, .int d])]) ?ho ?hc ?hb ?hs ?hh; (case ho => (show List.lookup _ (Mine.frame.heap_1 (World.params _)) = _; k_is)); (case hc => (show codeIn (Mine.frame.heap_1 (World.params _)) _ _ = true; k_is)); (case hb => exact bind2 fun _ _ => by kernel_rfl!); (case hs => exact rfl)))
  (repeat (first | wtm_at "vc0" | ((conv => whnf); wtm_at "vc0")))
  exact c_fraction (k := j + k + 1) (by omega) (Int.mul_pos p1 p2) (Bd.sub (Bd.mul b1 b4) (Nat.add_comm k j ▸ Bd.mul b3 b2)) ((Bd.mul b2 b4).le (Nat.le_succ _)) fun n e z1 z2 z3 z4 => h n e ⟨z1, z2, z3, val_sub z1 p1 p2 z4⟩
theorem c_divH {k : Nat} {p : Rat} {a b : Int} (h1 : F k p a b) (hk : k ≤ 7000) (h : ∀ n e, F (k + 7) (p * val 1 100) n e → Q (.tup [.int n, .int e]) σ) : CallP w (D + 6) (.ref 129) [.tup [.int a, .int b], .tup [.int 100, .int 1]] σ Q := by
  obtain ⟨p1, b1, b2, rfl⟩ := h1
  (refine CodeP.call ?_; (refine' enterW (n := 60) (vars0 := [("a", .tup [.int a, .int b]), ("b", .tup [.int 100, .int 1])]) ?ho ?hc ?hb ?hs ?hh; (case ho => (show List.lookup _ (Mine.frame.heap_1 (World.params _)) = _; k_is)); (case hc => (show codeIn (Mine.frame.heap_1 (World.params _)) _ _ = true; k_is)); (case hb => exact bind2 fun _ _ => by kernel_rfl!); (case hs => exact rfl)))
  (repeat (first | wtm_at "vc0" | ((conv => whnf); wtm_at "vc0")))
  exact c_fraction (k := k + 7) (by omega) (by omega) (Bd.mul b1 (Bd.lit (k := 7) (by decide))) (Bd.mul b2 (Bd.lit (k := 7) (by decide))) fun n e z1 z2 z3 z4 => h n e ⟨z1, z2, z3, val_mul z1 p1 (by decide) (by rw [z4])⟩
theorem c_sign {a b : Int} (h : Q (.int (if a > 0 then 1 else if a < 0 then -1 else 0)) σ) : CallP w (D + 2) (.ref 150) [.tup [.int a, .int b]] σ Q := by
  (refine CodeP.call ?_; (refine' enterW (n := 60) (vars0 := [("a", .tup [.int a, .int b])]) ?ho ?hc ?hb ?hs ?hh; (case ho => (show List.lookup _ (Mine.frame.heap_1 (World.params _)) = _; k_is)); (case hc => (show codeIn (Mine.frame.heap_1 (World.params _)) _ _ = true; k_is)); (case hb => exact bind1 fun _ => by kernel_rfl!); (case hs => exact rfl)))
  refine brn_ (fun h1 => ?_) (fun h1 => ?_)
  · rw [if_pos (show a > 0 from of_decide_eq_true h1)] at h
    exact h
  · rw [if_neg (show ¬ a > 0 from of_decide_eq_false h1)] at h
    refine brn_ (fun h2 => ?_) (fun h2 => ?_)
    · rw [if_pos (show a < 0 from of_decide_eq_true h2)] at h
      exact h
    · rw [if_neg (show ¬ a < 0 from of_decide_eq_false h2)] at h
      exact h
theorem c_absolute {a b : Int} (h : Q (.tup [.int (a.natAbs : Int), .int b]) σ) : CallP w (D + 2) (.ref 143) [.tup [.int a, .int b]] σ Q := by
  (refine CodeP.call ?_; (refine' enterW (n := 60) (vars0 := [("a", .tup [.int a, .int b])]) ?ho ?hc ?hb ?hs ?hh; (case ho => (show List.lookup _ (Mine.frame.heap_1 (World.params _)) = _; k_is)); (case hc => (show codeIn (Mine.frame.heap_1 (World.params _)) _ _ = true; k_is)); (case hb => exact bind1 fun _ => by kernel_rfl!); (case hs => exact rfl)))
  exact h
theorem c_cmpZ {k : Nat} (hk : k ≤ 8000) {a b : Int} (h1 : Bd k a) (h2 : Bd k b) (h : Q (.int (if a > 0 then 1 else if a < 0 then -1 else 0)) σ) : CallP w (D + 4) (.ref 157) [.tup [.int a, .int b], .tup [.int 0, .int 1]] σ Q := by
  (refine CodeP.call ?_; (refine' enterW (n := 60) (vars0 := [("a", .tup [.int a, .int b]), ("b", .tup [.int 0, .int 1])]) ?ho ?hc ?hb ?hs ?hh; (case ho => (show List.lookup _ (Mine.frame.heap_1 (World.params _)) = _; k_is)); (case hc => (show codeIn (Mine.frame.heap_1 (World.params _)) _ _ = true; k_is)); (case hb => exact bind2 fun _ _ => by kernel_rfl!); (case hs => exact rfl)))
  (repeat (first | wtm_at "vc0" | ((conv => whnf); wtm_at "vc0")))
  refine c_sign ?_
  rw [Int.mul_one, Int.zero_mul, Int.sub_zero]
  exact h
theorem c_floor {k : Nat} (hk : k ≤ 8000) {a b : Int} (h0 : 0 < b) (h2 : Bd k b) (h : Q (.int (a.fdiv b)) σ) : CallP w (D + 2) (.ref 164) [.tup [.int a, .int b]] σ Q := by
  (refine CodeP.call ?_; (refine' enterW (n := 60) (vars0 := [("a", .tup [.int a, .int b])]) ?ho ?hc ?hb ?hs ?hh; (case ho => (show List.lookup _ (Mine.frame.heap_1 (World.params _)) = _; k_is)); (case hc => (show codeIn (Mine.frame.heap_1 (World.params _)) _ _ = true; k_is)); (case hb => exact bind1 fun _ => by kernel_rfl!); (case hs => exact rfl)))
  refine And.intro ⟨by omega, h2.py (by omega)⟩ ?_
  exact h
theorem c_rounded {k : Nat} {q : Rat} {a b : Int} (h1 : F k q a b) (hk : k ≤ 8000) (h : ∀ i, Rnd q i → Bd (k + 1) i → Q (.int i) σ) : CallP w (D + 2) (.ref 171) [.tup [.int a, .int b]] σ Q := by
  obtain ⟨p1, b1, b2, rfl⟩ := h1
  (refine CodeP.call ?_; (refine' enterW (n := 60) (vars0 := [("a", .tup [.int a, .int b])]) ?ho ?hc ?hb ?hs ?hh; (case ho => (show List.lookup _ (Mine.frame.heap_1 (World.params _)) = _; k_is)); (case hc => (show codeIn (Mine.frame.heap_1 (World.params _)) _ _ = true; k_is)); (case hb => exact bind1 fun _ => by kernel_rfl!); (case hs => exact rfl)))
  (repeat (first | wtm_at "vc0" | ((conv => whnf); wtm_at "vc0")))
  refine And.intro ⟨by omega, (Bd.mul (j := 2) (k := k) (Bd.lit (by decide)) b2).py (by omega)⟩ ?_
  exact h _ ⟨a, b, p1, rfl, rfl⟩ (rnd_bd p1 b1)
theorem c_root {k : Nat} (hk9 : k ≤ 8000) {x : Int} (hx0 : 0 ≤ x) (hbx : Bd k x) (h : ∀ r, IsRoot x r → Bd (k + 2) r → Q (.int r) σ) : CallP w (D + 2) (.ref 178) [.int x] σ Q := by
  (refine CodeP.call ?_; (refine' enterW (n := 60) (vars0 := [("n", .int x)]) ?ho ?hc ?hb ?hs ?hh; (case ho => (show List.lookup _ (Mine.frame.heap_1 (World.params _)) = _; k_is)); (case hc => (show codeIn (Mine.frame.heap_1 (World.params _)) _ _ = true; k_is)); (case hb => exact bind1 fun _ => by kernel_rfl!); (case hs => exact rfl)))
  refine brn_ (fun h1 => absurd (of_decide_eq_true h1) (Int.not_lt.mpr hx0)) (fun h1 => ?_)
  refine brn_ (fun h1 => ?_) (fun h1 => ?_)
  · have e := of_decide_eq_true h1
    subst e
    exact h 0 ⟨by decide, by decide, by decide⟩ (Bd.lit (k := 1) (by decide) |>.le (by omega))
  · have hx1 : 1 ≤ x := cr1 hx0 (of_decide_eq_false h1)
    refine whl (fun n v σ' => ∃ f, v = ([("found", .int f), ("n", .int x)] : Vars) ∧ σ = σ' ∧ n = (2 * x + 1 - f).toNat ∧ 1 ≤ f ∧ f ≤ 2 * x) (2 * x + 1 - 1).toNat [("found", .int 1), ("n", .int x)] ?_ ⟨_, rfl, rfl, rfl, by decide, cr2 hx1⟩ ?_
    · exact ⟨rfl, rfl, trivial⟩
    rintro n _ _ ⟨f, rfl, rfl, rfl, e4, e5⟩
    have bf := bd_two hbx (cr3 e4) e5
    refine And.intro (Bd.mulOk bf bf (by omega)) ?_
    refine brn_ (fun h2 => ?_) (fun h2 => ?_)
    · have q0 := sq_le_self e4 (of_decide_eq_true h2)
      refine And.intro (Bd.mulOk bf (Bd.lit (k := 2) (by decide)) (by omega)) ?_
      obtain ⟨c1, c2, c3⟩ := cr4 e4 e5 q0
      exact ⟨(2 * x + 1 - f * 2).toNat, [("found", .int (f * 2)), ("n", .int x)], c1, ⟨rfl, rfl, trivial⟩, _, rfl, rfl, rfl, c2, c3⟩
    · have hg : x < (f + 1) * (f + 1) := grow_gt e4 (of_decide_eq_false h2)
      refine And.intro ⟨cr5 e4, bf.py (cr6 hk9)⟩ ?_
      refine And.intro ⟨by decide, (Bd.lit (k := 2) (by decide)).py (by decide)⟩ ?_
      refine whl (fun n v σ' => ∃ f l, v = ([("found", .int f), ("lower", .int l), ("n", .int x)] : Vars) ∧ σ = σ' ∧ n = f.toNat ∧ 1 ≤ f ∧ f ≤ 2 * x ∧ x < (f + 1) * (f + 1) ∧ l = (f + x.fdiv f).fdiv 2) f.toNat [("found", .int f), ("lower", .int ((f + x.fdiv f).fdiv 2)), ("n", .int x)] ?_ ⟨_, _, rfl, rfl, rfl, e4, e5, hg, rfl⟩ ?_
      · exact ⟨rfl, rfl, rfl, trivial⟩
      rintro n _ _ ⟨f, l, rfl, rfl, rfl, e4, e5, e6, e7⟩
      obtain ⟨q1, q2⟩ := newton_lo e4 hx1 e7
      refine brn_ (fun h3 => ?_) (fun h3 => ?_)
      · have hlf := of_decide_eq_true h3
        have bl : Bd (k + 1) l := bd_two hbx (cr3 q1) (Int.le_trans (Int.le_of_lt hlf) e5)
        refine And.intro ⟨cr5 q1, bl.py (cr6 hk9)⟩ ?_
        refine And.intro ⟨by decide, (Bd.lit (k := 2) (by decide)).py (by decide)⟩ ?_
        exact ⟨l.toNat, [("found", .int l), ("lower", .int ((l + x.fdiv l).fdiv 2)), ("n", .int x)], cr7 q1 hlf, ⟨rfl, rfl, rfl, trivial⟩, _, _, rfl, rfl, rfl, q1, Int.le_trans (Int.le_of_lt hlf) e5, q2, rfl⟩
      · have hs := newton_stop e4 e7 (of_decide_eq_false h3)
        exact h f ⟨cr3 e4, hs, e6⟩ (bd_two hbx (cr3 e4) e5 |>.le (Nat.le_succ _))
end
end
section
set_option backward.match.sparseCases false
/-- a spot -/
noncomputable abbrev sp (x y : Int) : Dat := .tup [.int x, .int y]
section
variable {w : World} {D : Nat} {σ : Sto} {Q : Dat → Sto → Prop}
theorem c_way {a b c d : Int} (h : Q (sp (c - a) (d - b)) σ) : CallP w (D + 2) (.ref 631) [sp a b, sp c d] σ Q := by
  (refine CodeP.call ?_; (refine' enterW (n := 60) (vars0 := [("one", sp a b), ("other", sp c d)]) ?ho ?hc ?hb ?hs ?hh; (case ho => (show List.lookup _ (Mine.frame.heap_1 (World.params _)) = _; k_is)); (case hc => (show codeIn (Mine.frame.heap_1 (World.params _)) _ _ = true; k_is)); (case hb => exact bind2 fun _ _ => by kernel_rfl!); (case hs => exact rfl)))
  exact h
theorem c_moved {a b c d : Int} (h : Q (sp (a + c) (b + d)) σ) : CallP w (D + 2) (.ref 638) [sp a b, sp c d] σ Q := by
  (refine CodeP.call ?_; (refine' enterW (n := 60) (vars0 := [("spot", sp a b), ("vector", sp c d)]) ?ho ?hc ?hb ?hs ?hh; (case ho => (show List.lookup _ (Mine.frame.heap_1 (World.params _)) = _; k_is)); (case hc => (show codeIn (Mine.frame.heap_1 (World.params _)) _ _ = true; k_is)); (case hb => exact bind2 fun _ _ => by kernel_rfl!); (case hs => exact rfl)))
  exact h
theorem c_turned {a b : Int} (h : Q (sp (-a) (-b)) σ) : CallP w (D + 2) (.ref 645) [sp a b] σ Q := by
  (refine CodeP.call ?_; (refine' enterW (n := 60) (vars0 := [("vector", sp a b)]) ?ho ?hc ?hb ?hs ?hh; (case ho => (show List.lookup _ (Mine.frame.heap_1 (World.params _)) = _; k_is)); (case hc => (show codeIn (Mine.frame.heap_1 (World.params _)) _ _ = true; k_is)); (case hb => exact bind1 fun _ => by kernel_rfl!); (case hs => exact rfl)))
  exact h
theorem c_nrs {k : Nat} (hk9 : k ≤ 1000) {x q : Int} (hq : 0 < q) (hx : Bd k x) (hbq : Bd k q) (h : ∀ i, NRS x q i → Bd k i → Q (.int i) σ) : CallP w (D + 4) (.ref 617) [.int x, .int q] σ Q := by
  (refine CodeP.call ?_; (refine' enterW (n := 60) (vars0 := [("share", .int x), ("square", .int q)]) ?ho ?hc ?hb ?hs ?hh; (case ho => (show List.lookup _ (Mine.frame.heap_1 (World.params _)) = _; k_is)); (case hc => (show codeIn (Mine.frame.heap_1 (World.params _)) _ _ = true; k_is)); (case hb => exact bind2 fun _ _ => by kernel_rfl!); (case hs => exact rfl)))
  have ha : Bd k ((x.natAbs : Nat) : Int) := hx.of_abs (by omega)
  have h4 : (0 : Int) ≤ 4 * (x.natAbs : Int) * x.natAbs := nn_mul _
  have b4 : Bd (3 + k + k) (4 * (x.natAbs : Int) * x.natAbs) := Bd.mul (Bd.mul (Bd.lit (k := 3) (by decide)) ha) ha
  refine And.intro (Bd.mulOk (Bd.lit (k := 3) (by decide)) ha (by omega)) ?_
  refine And.intro (Bd.mulOk (Bd.mul (Bd.lit (k := 3) (by decide)) ha) ha (by omega)) ?_
  refine And.intro ⟨by omega, hbq.py (by omega)⟩ ?_
  refine c_root (k := 3 + k + k) (by omega) (nrs_arg0 h4 hq) (fdiv_bd h4 hq b4) fun r hr br => ?_
  refine And.intro ⟨by decide, (Bd.lit (k := 2) (by decide)).py (by decide)⟩ ?_
  have hn : NRS x q (if x < 0 then -((r + 1).fdiv 2) else (r + 1).fdiv 2) := ⟨r, hr, rfl⟩
  have hb := nrs_bd hq hx hn
  refine brn_ (fun h1 => ?_) (fun h1 => ?_)
  · rw [if_pos (show x < 0 from of_decide_eq_true h1)] at hn hb
    exact h _ hn hb
  · rw [if_neg (show ¬ x < 0 from of_decide_eq_false h1)] at hn hb
    exact h _ hn hb
theorem c_normal {k : Nat} (hk9 : k ≤ 100) {a b c d g : Int} (ha : Bd k a) (hb : Bd k b) (hc : Bd k c) (hd : Bd k d) (hg : Bd k g) (hne : c - a ≠ 0)
    (h : ∀ x y, NRS ((d - b) * g) ((c - a) * (c - a) + (d - b) * (d - b)) x → NRS (-(c - a) * g) ((c - a) * (c - a) + (d - b) * (d - b)) y → Bd (3 * k + 4) x → Bd (3 * k + 4) y → Q (sp x y) σ) : CallP w (D + 6) (.ref 659) [sp a b, sp c d, .int g] σ Q := by
  (refine CodeP.call ?_; (refine' enterW (n := 60) (vars0 := [("one", sp a b), ("other", sp c d), ("half", .int g)]) ?ho ?hc ?hb ?hs ?hh; (case ho => (show List.lookup _ (Mine.frame.heap_1 (World.params _)) = _; k_is)); (case hc => (show codeIn (Mine.frame.heap_1 (World.params _)) _ _ = true; k_is)); (case hb => exact bind3 fun _ _ _ => by kernel_rfl!); (case hs => exact rfl)))
  have b1 : Bd (k + 1) (c - a) := Bd.sub hc ha
  have b2 : Bd (k + 1) (d - b) := Bd.sub hd hb
  have b3 := sq_bd b1 b2
  refine c_way ?_
  (repeat (first | wtm_at "vc0" | ((conv => whnf); wtm_at "vc0")))
  refine c_nrs (k := 3 * k + 4) (by omega) (sq_pos hne) ((Bd.mul b2 hg).le (by omega)) (b3.le (by omega)) fun x hx bx => ?_
  (repeat (first | wtm_at "vc0" | ((conv => whnf); wtm_at "vc0")))
  refine c_nrs (k := 3 * k + 4) (by omega) (sq_pos hne) ((Bd.mul b1.neg hg).le (by omega)) (b3.le (by omega)) fun y hy byy => ?_
  exact h x y hx hy bx byy
theorem c_parallel {k : Nat} (hk9 : k ≤ 100) {a b c d g : Int} (ha : Bd k a) (hb : Bd k b) (hc : Bd k c) (hd : Bd k d) (hg : Bd k g) (hne : c - a ≠ 0)
    (h : ∀ x y, NRS ((d - b) * g) ((c - a) * (c - a) + (d - b) * (d - b)) x → NRS (-(c - a) * g) ((c - a) * (c - a) + (d - b) * (d - b)) y → Bd (3 * k + 4) x → Bd (3 * k + 4) y →
      Q (.tup [sp (a + x) (b + y), sp (c + x) (d + y), sp (c + -x) (d + -y), sp (a + -x) (b + -y)]) σ) : CallP w (D + 8) (.ref 673) [sp a b, sp c d, .int g] σ Q := by
  (refine CodeP.call ?_; (refine' enterW (n := 60) (vars0 := [("one", sp a b), ("other", sp c d), ("half", .int g)]) ?ho ?hc ?hb ?hs ?hh; (case ho => (show List.lookup _ (Mine.frame.heap_1 (World.params _)) = _; k_is)); (case hc => (show codeIn (Mine.frame.heap_1 (World.params _)) _ _ = true; k_is)); (case hb => exact bind3 fun _ _ _ => by kernel_rfl!); (case hs => exact rfl)))
  refine c_normal hk9 ha hb hc hd hg hne fun x y hx hy bx byy => ?_
  refine c_turned ?_
  refine c_moved ?_
  refine c_moved ?_
  refine c_moved ?_
  refine c_moved ?_
  exact h x y hx hy bx byy
end
end
section
set_option backward.match.sparseCases false
theorem eqv_sp {a b c d : Int} : PyData.eqv (.tuple [.int a, .int b]) (.tuple [.int c, .int d]) = (decide (a = c) && decide (b = d)) := by
  simp [PyData.eqv, PyData.eqvAll]
  rfl
theorem brn_eq {b b' : Bool} {X Y : Prop} (e : b = b') (h : brn b' X Y) : brn b X Y := e ▸ h
theorem ne_sp {a b c d : Int} (h : ¬(a = c ∧ b = d)) : (true ^^ PyData.eqv (.tuple [.int a, .int b]) (.tuple [.int c, .int d])) = true := by
  rw [eqv_sp]
  by_cases h1 : a = c <;> by_cases h2 : b = d <;> simp_all
theorem eq_sp {a b c d : Int} (h : ¬(a = c ∧ b = d)) : (false ^^ PyData.eqv (.tuple [.int a, .int b]) (.tuple [.int c, .int d])) = false := by
  rw [eqv_sp]
  by_cases h1 : a = c <;> by_cases h2 : b = d <;> simp_all
section
variable {w : World} {D : Nat} {σ : Sto} {Q : Dat → Sto → Prop}
theorem c_area {k : Nat} (hk9 : k ≤ 1000) {l : Addr} {x1 y1 x2 y2 x3 y3 x4 y4 : Int} (hl : σ l = some (.list [sp x1 y1, sp x2 y2, sp x3 y3, sp x4 y4])) (b1 : Bd k x1) (b2 : Bd k y1) (b3 : Bd k x2) (b4 : Bd k y2) (b5 : Bd k x3) (b6 : Bd k y3) (b7 : Bd k x4) (b8 : Bd k y4)
    (h : Q (.int (0 + (x4 * y1 - y4 * x1) + (x1 * y2 - y1 * x2) + (x2 * y3 - y2 * x3) + (x3 * y4 - y3 * x4))) σ) : CallP w (D + 2) (.ref 680) [.val (.ref l)] σ Q := by
  (refine CodeP.call ?_; (refine' enterW (n := 60) (vars0 := [("spots", .val (.ref l))]) ?ho ?hc ?hb ?hs ?hh; (case ho => (show List.lookup _ (Mine.frame.heap_1 (World.params _)) = _; k_is)); (case hc => (show codeIn (Mine.frame.heap_1 (World.params _)) _ _ = true; k_is)); (case hb => exact bind1 fun _ => by kernel_rfl!); (case hs => exact rfl)))
  (repeat (first | wtm_at "vc0" | ((conv => whnf); wtm_at "vc0")))
  exact h
theorem c_sense {k : Nat} (hk9 : k ≤ 1000) {x1 y1 x2 y2 x3 y3 x4 y4 : Int} (b1 : Bd k x1) (b2 : Bd k y1) (b3 : Bd k x2) (b4 : Bd k y2) (b5 : Bd k x3) (b6 : Bd k y3) (b7 : Bd k x4) (b8 : Bd k y4)
    (n1 : ¬(x2 = x1 ∧ y2 = y1)) (n2 : ¬(x3 = x2 ∧ y3 = y2)) (n3 : ¬(x4 = x3 ∧ y4 = y3)) (n4 : ¬(x4 = x1 ∧ y4 = y1)) (ha : 0 < 0 + (x4 * y1 - y4 * x1) + (x1 * y2 - y1 * x2) + (x2 * y3 - y2 * x3) + (x3 * y4 - y3 * x4))
    (h : ∀ σ', SLe σ σ' → Q (.tup [sp x1 y1, sp x2 y2, sp x3 y3, sp x4 y4]) σ') : CallP w (D + 4) (.ref 687) [.tup [sp x1 y1, sp x2 y2, sp x3 y3, sp x4 y4]] σ Q := by
  (refine CodeP.call ?_; (refine' enterW (n := 60) (vars0 := [("spots", .tup [sp x1 y1, sp x2 y2, sp x3 y3, sp x4 y4])]) ?ho ?hc ?hb ?hs ?hh; (case ho => (show List.lookup _ (Mine.frame.heap_1 (World.params _)) = _; k_is)); (case hc => (show codeIn (Mine.frame.heap_1 (World.params _)) _ _ = true; k_is)); (case hb => exact bind1 fun _ => by kernel_rfl!); (case hs => exact rfl)))
  (conv => whnf)
  intro D0 hD0
  (repeat (first | wtm_at "vc0" | ((conv => whnf); wtm_at "vc0")))
  refine brn_eq (ne_sp n1) (brn_t ?_)
  (repeat (first | wtm_at "vc0" | ((conv => whnf); wtm_at "vc0")))
  refine brn_eq (ne_sp n2) (brn_t ?_)
  (repeat (first | wtm_at "vc0" | ((conv => whnf); wtm_at "vc0")))
  refine brn_eq (ne_sp n3) (brn_t ?_)
  (repeat (first | wtm_at "vc0" | ((conv => whnf); wtm_at "vc0")))
  refine whl (fun n v s' => n = 0 ∧ v = ([("found", .val (.ref D0))] : Vars) ∧ s' = _) 0 [("found", .val (.ref D0))] ?_ ⟨rfl, rfl, rfl⟩ ?_
  · exact ⟨rfl, trivial⟩
  rintro _ _ _ ⟨rfl, rfl, rfl⟩
  (repeat (first | wtm_at "vc0" | ((conv => whnf); wtm_at "vc0")))
  refine brn_eq (eq_sp n4) (brn_f ?_)
  (repeat (first | wtm_at "vc0" | ((conv => whnf); wtm_at "vc0")))
  refine c_area hk9 ?hl b1 b2 b3 b4 b5 b6 b7 b8 ?_
  case hl => wtm_at "sto"
  refine brn_eq (decide_eq_false (Int.ne_of_gt ha)) (brn_f ?_)
  refine brn_eq (decide_eq_true ha) (brn_t ?_)
  (repeat (first | wtm_at "vc0" | ((conv => whnf); wtm_at "vc0")))
  exact h _ (by repeat' (first | exact SLe.rfl | with_reducible assumption | refine SLe.upd ?_ ?_ | apply none_of_set))
end
end
section
set_option backward.match.sparseCases false
/-- six fractions of a matrix -/
noncomputable abbrev mxNs (a b c d e f : Dat) : MO := .ns [("a", a), ("b", b), ("c", c), ("d", d), ("e", e), ("f", f)]
section
variable {w : World} {D : Nat} {σ : Sto} {Q : Dat → Sto → Prop}
theorem k_Matrix {a b c d e f : Dat} (h : ∀ x m, σ m = none → Q (.inst x 599 m) (σ.set m (mxNs a b c d e f))) : CallP w (D + 3) (.ref 599) [a, b, c, d, e, f] σ Q := by
  refine call_class (fI := 554) (by (show makesIn (Mine.frame.heap_1 (World.params _)) _ = true); k_is) (by (show findIn (Mine.frame.heap_1 (World.params _)) _ _ = _); k_is) (by (show isFn (Mine.frame.heap_1 (World.params _)) _ = true); k_is) fun x m hm => ?_
  (refine' enterW (n := 60) (vars0 := [("self", .inst x 599 m), ("a", a), ("b", b), ("c", c), ("d", d), ("e", e), ("f", f)]) ?ho ?hc ?hb ?hs ?hh; (case ho => (show List.lookup _ (Mine.frame.heap_1 (World.params _)) = _; k_is)); (case hc => (show codeIn (Mine.frame.heap_1 (World.params _)) _ _ = true; k_is)); (case hb => exact bind7 fun _ _ _ _ _ _ _ => by kernel_rfl!); (case hs => exact rfl))
  (repeat (first | wtm_at "vc0" | ((conv => whnf); wtm_at "vc0")))
  have h' := h x m hm
  (conv => whnf)
  simp only [Sto.set_set]
  exact h'
theorem c_identity (h : ∀ x m, σ m = none → Q (.inst x 599 m) (σ.set m (mxNs (sp 1 1) (sp 0 1) (sp 0 1) (sp 1 1) (sp 0 1) (sp 0 1)))) : CallP w (D + 5) (.ref 610) [] σ Q := by
  (refine CodeP.call ?_; (refine' enterW (n := 60) (vars0 := []) ?ho ?hc ?hb ?hs ?hh; (case ho => (show List.lookup _ (Mine.frame.heap_1 (World.params _)) = _; k_is)); (case hc => (show codeIn (Mine.frame.heap_1 (World.params _)) _ _ = true; k_is)); (case hb => exact bind0 (by kernel_rfl!)); (case hs => exact rfl)))
  (conv => whnf)
  exact k_Matrix h
theorem k_Look {v : Dat} (h : ∀ x m, σ m = none → Q (.inst x 1133 m) (σ.set m (.ns [("values", v)]))) : CallP w (D + 3) (.ref 1133) [v] σ Q := by
  refine call_class (fI := 1057) (by (show makesIn (Mine.frame.heap_1 (World.params _)) _ = true); k_is) (by (show findIn (Mine.frame.heap_1 (World.params _)) _ _ = _); k_is) (by (show isFn (Mine.frame.heap_1 (World.params _)) _ = true); k_is) fun x m hm => ?_
  (refine' enterW (n := 60) (vars0 := [("self", .inst x 1133 m), ("values", v)]) ?ho ?hc ?hb ?hs ?hh; (case ho => (show List.lookup _ (Mine.frame.heap_1 (World.params _)) = _; k_is)); (case hc => (show codeIn (Mine.frame.heap_1 (World.params _)) _ _ = true; k_is)); (case hb => exact bind2 fun _ _ => by kernel_rfl!); (case hs => exact rfl))
  (repeat (first | wtm_at "vc0" | ((conv => whnf); wtm_at "vc0")))
  have h' := h x m hm
  (conv => whnf)
  simp only [Sto.set_set]
  exact h'
end
end
section
set_option backward.match.sparseCases false
section
variable {w : World} {D : Nat} {σ : Sto} {Q : Dat → Sto → Prop}
theorem c_vector {j k : Nat} (hk9 : j + k ≤ 3000) {x m : Addr} {a1 a2 b1 b2 c1 c2 d1 d2 x1 x2 y1 y2 : Int} {e f : Dat} {qa qb qc qd qx qy : Rat} (hm : σ m = some (mxNs (sp a1 a2) (sp b1 b2) (sp c1 c2) (sp d1 d2) e f))
    (ha : F j qa a1 a2) (hb : F j qb b1 b2) (hc : F j qc c1 c2) (hd : F j qd d1 d2) (hx : F k qx x1 x2) (hy : F k qy y1 y2)
    (h : ∀ u1 u2 v1 v2, F (j + k + (j + k) + 1) (qa * qx + qc * qy) u1 u2 → F (j + k + (j + k) + 1) (qb * qx + qd * qy) v1 v2 → Q (.tup [sp u1 u2, sp v1 v2]) σ) : CallP w (D + 8) (.ref 568) [.inst x 599 m, .tup [sp x1 x2, sp y1 y2]] σ Q := by
  (refine CodeP.call ?_; (refine' enterW (n := 60) (vars0 := [("self", .inst x 599 m), ("p", .tup [sp x1 x2, sp y1 y2])]) ?ho ?hc ?hb ?hs ?hh; (case ho => (show List.lookup _ (Mine.frame.heap_1 (World.params _)) = _; k_is)); (case hc => (show codeIn (Mine.frame.heap_1 (World.params _)) _ _ = true; k_is)); (case hb => exact bind2 fun _ _ => by kernel_rfl!); (case hs => exact rfl)))
  (repeat (first | wtm_at "vc0" | (refine c_times (by with_reducible assumption) (by with_reducible assumption) (by omega) (fun _ _ _ => ?_)) | (refine c_plus (by with_reducible assumption) (by with_reducible assumption) (by omega) (fun _ _ _ => ?_)) | (refine c_minus (by with_reducible assumption) (by with_reducible assumption) (by omega) (fun _ _ _ => ?_)) | ((conv => whnf); first | wtm_at "vc0" | (refine c_times (by with_reducible assumption) (by with_reducible assumption) (by omega) (fun _ _ _ => ?_)) | (refine c_plus (by with_reducible assumption) (by with_reducible assumption) (by omega) (fun _ _ _ => ?_)) | (refine c_minus (by with_reducible assumption) (by with_reducible assumption) (by omega) (fun _ _ _ => ?_)))))
  exact h _ _ _ _ (by with_reducible assumption) (by with_reducible assumption)
theorem c_point {j k : Nat} (hk9 : j + k ≤ 1000) {x m : Addr} {a1 a2 b1 b2 c1 c2 d1 d2 e1 e2 f1 f2 x1 x2 y1 y2 : Int} {qa qb qc qd qe qf qx qy : Rat} (hm : σ m = some (mxNs (sp a1 a2) (sp b1 b2) (sp c1 c2) (sp d1 d2) (sp e1 e2) (sp f1 f2)))
    (ha : F j qa a1 a2) (hb : F j qb b1 b2) (hc : F j qc c1 c2) (hd : F j qd d1 d2) (he : F j qe e1 e2) (hf : F j qf f1 f2) (hx : F k qx x1 x2) (hy : F k qy y1 y2)
    (h : ∀ u1 u2 v1 v2, F (j + k + (j + k) + 1 + j + 1) (qa * qx + qc * qy + qe) u1 u2 → F (j + k + (j + k) + 1 + j + 1) (qb * qx + qd * qy + qf) v1 v2 → Q (.tup [sp u1 u2, sp v1 v2]) σ) : CallP w (D + 10) (.ref 575) [.inst x 599 m, .tup [sp x1 x2, sp y1 y2]] σ Q := by
  (refine CodeP.call ?_; (refine' enterW (n := 60) (vars0 := [("self", .inst x 599 m), ("p", .tup [sp x1 x2, sp y1 y2])]) ?ho ?hc ?hb ?hs ?hh; (case ho => (show List.lookup _ (Mine.frame.heap_1 (World.params _)) = _; k_is)); (case hc => (show codeIn (Mine.frame.heap_1 (World.params _)) _ _ = true; k_is)); (case hb => exact bind2 fun _ _ => by kernel_rfl!); (case hs => exact rfl)))
  (repeat (first | wtm_at "vc0" | (refine c_times (by with_reducible assumption) (by with_reducible assumption) (by omega) (fun _ _ _ => ?_)) | (refine c_plus (by with_reducible assumption) (by with_reducible assumption) (by omega) (fun _ _ _ => ?_)) | (refine c_minus (by with_reducible assumption) (by with_reducible assumption) (by omega) (fun _ _ _ => ?_)) | ((conv => whnf); first | wtm_at "vc0" | (refine c_times (by with_reducible assumption) (by with_reducible assumption) (by omega) (fun _ _ _ => ?_)) | (refine c_plus (by with_reducible assumption) (by with_reducible assumption) (by omega) (fun _ _ _ => ?_)) | (refine c_minus (by with_reducible assumption) (by with_reducible assumption) (by omega) (fun _ _ _ => ?_)))))
  refine c_vector (by omega) hm ha hb hc hd hx hy fun u1 u2 v1 v2 hu hv => ?_
  (repeat (first | wtm_at "vc0" | (refine c_times (by with_reducible assumption) (by with_reducible assumption) (by omega) (fun _ _ _ => ?_)) | (refine c_plus (by with_reducible assumption) (by with_reducible assumption) (by omega) (fun _ _ _ => ?_)) | (refine c_minus (by with_reducible assumption) (by with_reducible assumption) (by omega) (fun _ _ _ => ?_)) | ((conv => whnf); first | wtm_at "vc0" | (refine c_times (by with_reducible assumption) (by with_reducible assumption) (by omega) (fun _ _ _ => ?_)) | (refine c_plus (by with_reducible assumption) (by with_reducible assumption) (by omega) (fun _ _ _ => ?_)) | (refine c_minus (by with_reducible assumption) (by with_reducible assumption) (by omega) (fun _ _ _ => ?_)))))
  exact h _ _ _ _ (by with_reducible assumption) (by with_reducible assumption)
theorem c_det {j : Nat} (hk9 : j ≤ 1000) {x m : Addr} {a1 a2 b1 b2 c1 c2 d1 d2 : Int} {e f : Dat} {qa qb qc qd : Rat} (hm : σ m = some (mxNs (sp a1 a2) (sp b1 b2) (sp c1 c2) (sp d1 d2) e f))
    (ha : F j qa a1 a2) (hb : F j qb b1 b2) (hc : F j qc c1 c2) (hd : F j qd d1 d2)
    (h : ∀ u1 u2, F (j + j + (j + j) + 1) (qa * qd - qb * qc) u1 u2 → Q (sp u1 u2) σ) : CallP w (D + 8) (.ref 589) [.inst x 599 m] σ Q := by
  (refine CodeP.call ?_; (refine' enterW (n := 60) (vars0 := [("self", .inst x 599 m)]) ?ho ?hc ?hb ?hs ?hh; (case ho => (show List.lookup _ (Mine.frame.heap_1 (World.params _)) = _; k_is)); (case hc => (show codeIn (Mine.frame.heap_1 (World.params _)) _ _ = true; k_is)); (case hb => exact bind1 fun _ => by kernel_rfl!); (case hs => exact rfl)))
  (repeat (first | wtm_at "vc0" | (refine c_times (by with_reducible assumption) (by with_reducible assumption) (by omega) (fun _ _ _ => ?_)) | (refine c_plus (by with_reducible assumption) (by with_reducible assumption) (by omega) (fun _ _ _ => ?_)) | (refine c_minus (by with_reducible assumption) (by with_reducible assumption) (by omega) (fun _ _ _ => ?_)) | ((conv => whnf); first | wtm_at "vc0" | (refine c_times (by with_reducible assumption) (by with_reducible assumption) (by omega) (fun _ _ _ => ?_)) | (refine c_plus (by with_reducible assumption) (by with_reducible assumption) (by omega) (fun _ _ _ => ?_)) | (refine c_minus (by with_reducible assumption) (by with_reducible assumption) (by omega) (fun _ _ _ => ?_)))))
  exact h _ _ (by with_reducible assumption)
theorem c_inGrains {k : Nat} (hk : k ≤ 1000) {q : Rat} {n d l : Int} (h1 : F k q n d) (hl : Bd 60 l) (h : ∀ i, Rnd (q * (l : Rat)) i → Bd (k + 61) i → Q (.int i) σ) : CallP w (D + 8) (.ref 1009) [sp n d, .int l] σ Q := by
  have h2 : F 60 (l : Rat) l 1 := ⟨by decide, hl, Bd.lit (by decide), val_one⟩
  (refine CodeP.call ?_; (refine' enterW (n := 60) (vars0 := [("number", sp n d), ("local", .int l)]) ?ho ?hc ?hb ?hs ?hh; (case ho => (show List.lookup _ (Mine.frame.heap_1 (World.params _)) = _; k_is)); (case hc => (show codeIn (Mine.frame.heap_1 (World.params _)) _ _ = true; k_is)); (case hb => exact bind2 fun _ _ => by kernel_rfl!); (case hs => exact rfl)))
  (repeat (first | wtm_at "vc0" | (refine c_times (by with_reducible assumption) (by with_reducible assumption) (by omega) (fun _ _ _ => ?_)) | (refine c_plus (by with_reducible assumption) (by with_reducible assumption) (by omega) (fun _ _ _ => ?_)) | (refine c_minus (by with_reducible assumption) (by with_reducible assumption) (by omega) (fun _ _ _ => ?_)) | ((conv => whnf); first | wtm_at "vc0" | (refine c_times (by with_reducible assumption) (by with_reducible assumption) (by omega) (fun _ _ _ => ?_)) | (refine c_plus (by with_reducible assumption) (by with_reducible assumption) (by omega) (fun _ _ _ => ?_)) | (refine c_minus (by with_reducible assumption) (by with_reducible assumption) (by omega) (fun _ _ _ => ?_)))))
  exact c_rounded (by with_reducible assumption) (by omega) h
end
end
section
set_option backward.match.sparseCases false
theorem F.whole {l : Int} (hl : Bd 60 l) : F 60 (l : Rat) l 1 := ⟨by decide, hl, Bd.lit (by decide), val_one⟩
section
variable {w : World} {D : Nat} {σ : Sto} {Q : Dat → Sto → Prop}
theorem c_spot {j k : Nat} (hk9 : j + k ≤ 900) {x m : Addr} {a1 a2 b1 b2 c1 c2 d1 d2 e1 e2 f1 f2 x1 x2 y1 y2 g : Int} {qa qb qc qd qe qf qx qy : Rat} (hm : σ m = some (mxNs (sp a1 a2) (sp b1 b2) (sp c1 c2) (sp d1 d2) (sp e1 e2) (sp f1 f2)))
    (ha : F j qa a1 a2) (hb : F j qb b1 b2) (hc : F j qc c1 c2) (hd : F j qd d1 d2) (he : F j qe e1 e2) (hf : F j qf f1 f2) (hx : F k qx x1 x2) (hy : F k qy y1 y2) (hg : Bd 60 g)
    (h : ∀ u v, Rnd ((qa * qx + qc * qy + qe) * (g : Rat)) u → Rnd ((qb * qx + qd * qy + qf) * (g : Rat)) v → Bd (3 * j + 2 * k + 63) u → Bd (3 * j + 2 * k + 63) v → Q (sp u v) σ) : CallP w (D + 12) (.ref 419) [.inst x 599 m, .tup [sp x1 x2, sp y1 y2], .int g] σ Q := by
  have h2 := F.whole hg
  (refine CodeP.call ?_; (refine' enterW (n := 60) (vars0 := [("matrix", .inst x 599 m), ("p", .tup [sp x1 x2, sp y1 y2]), ("grain", .int g)]) ?ho ?hc ?hb ?hs ?hh; (case ho => (show List.lookup _ (Mine.frame.heap_1 (World.params _)) = _; k_is)); (case hc => (show codeIn (Mine.frame.heap_1 (World.params _)) _ _ = true; k_is)); (case hb => exact bind3 fun _ _ _ => by kernel_rfl!); (case hs => exact rfl)))
  (repeat (first | wtm_at "vc0" | (refine c_times (by with_reducible assumption) (by with_reducible assumption) (by omega) (fun _ _ _ => ?_)) | (refine c_rounded (by with_reducible assumption) (by omega) (fun _ _ _ => ?_)) | ((conv => whnf); first | wtm_at "vc0" | (refine c_times (by with_reducible assumption) (by with_reducible assumption) (by omega) (fun _ _ _ => ?_)) | (refine c_rounded (by with_reducible assumption) (by omega) (fun _ _ _ => ?_)))))
  (conv => whnf)
  refine c_point (by omega) hm ha hb hc hd he hf hx hy fun u1 u2 v1 v2 hu hv => ?_
  (repeat (first | wtm_at "vc0" | (refine c_times (by with_reducible assumption) (by with_reducible assumption) (by omega) (fun _ _ _ => ?_)) | (refine c_rounded (by with_reducible assumption) (by omega) (fun _ _ _ => ?_)) | ((conv => whnf); first | wtm_at "vc0" | (refine c_times (by with_reducible assumption) (by with_reducible assumption) (by omega) (fun _ _ _ => ?_)) | (refine c_rounded (by with_reducible assumption) (by omega) (fun _ _ _ => ?_)))))
  exact h _ _ (by with_reducible assumption) (by with_reducible assumption) (Bd.le (by with_reducible assumption) (by omega)) (Bd.le (by with_reducible assumption) (by omega))
theorem c_led {j : Nat} (hk9 : j ≤ 200) {x m : Addr} {a1 a2 b1 b2 c1 c2 d1 d2 e1 e2 f1 f2 x1 y1 l g : Int} {qa qb qc qd qe qf : Rat} (hm : σ m = some (mxNs (sp a1 a2) (sp b1 b2) (sp c1 c2) (sp d1 d2) (sp e1 e2) (sp f1 f2)))
    (ha : F j qa a1 a2) (hb : F j qb b1 b2) (hc : F j qc c1 c2) (hd : F j qd d1 d2) (he : F j qe e1 e2) (hf : F j qf f1 f2) (hx : Bd 100 x1) (hy : Bd 100 y1) (hl : Bd 100 l) (hl0 : 0 < l) (hg : Bd 60 g)
    (h : ∀ u v, Rnd ((qa * val x1 l + qc * val y1 l + qe) * (g : Rat)) u → Rnd ((qb * val x1 l + qd * val y1 l + qf) * (g : Rat)) v → Q (sp u v) σ) : CallP w (D + 14) (.ref 1026) [.inst x 599 m, sp x1 y1, .int l, .int g] σ Q := by
  (refine CodeP.call ?_; (refine' enterW (n := 60) (vars0 := [("matrix", .inst x 599 m), ("spot", sp x1 y1), ("local", .int l), ("grain", .int g)]) ?ho ?hc ?hb ?hs ?hh; (case ho => (show List.lookup _ (Mine.frame.heap_1 (World.params _)) = _; k_is)); (case hc => (show codeIn (Mine.frame.heap_1 (World.params _)) _ _ = true; k_is)); (case hb => exact bind4 fun _ _ _ _ => by kernel_rfl!); (case hs => exact rfl)))
  (conv => whnf)
  refine c_fraction (k := 100) (by omega) hl0 hx hl fun n1 d1' z1 z2 z3 z4 => ?_
  (conv => whnf)
  refine c_fraction (k := 100) (by omega) hl0 hy hl fun n2 d2' y1' y2' y3 y4 => ?_
  (conv => whnf)
  exact c_spot (k := 100) (by omega) hm ha hb hc hd he hf ⟨z1, z2, z3, (val_eq_iff z1 hl0).mpr z4⟩ ⟨y1', y2', y3, (val_eq_iff y1' hl0).mpr y4⟩ hg fun u v hu hv _ _ => h u v hu hv
/-- the root of the area that a matrix makes of a square of side 1, cut, and 1 more -/
theorem c_stretch {j : Nat} (hk9 : j ≤ 1000) {x m : Addr} {a1 a2 b1 b2 c1 c2 d1 d2 : Int} {e f : Dat} {qa qb qc qd : Rat} (hm : σ m = some (mxNs (sp a1 a2) (sp b1 b2) (sp c1 c2) (sp d1 d2) e f))
    (ha : F j qa a1 a2) (hb : F j qb b1 b2) (hc : F j qc c1 c2) (hd : F j qd d1 d2)
    (h : ∀ u1 u2 r, F (j + j + (j + j) + 1) (qa * qd - qb * qc) u1 u2 → IsRoot ((u1.natAbs : Int).fdiv u2) r → Q (.int (1 + r)) σ) : CallP w (D + 10) (.ref 1002) [.inst x 599 m] σ Q := by
  (refine CodeP.call ?_; (refine' enterW (n := 60) (vars0 := [("matrix", .inst x 599 m)]) ?ho ?hc ?hb ?hs ?hh; (case ho => (show List.lookup _ (Mine.frame.heap_1 (World.params _)) = _; k_is)); (case hc => (show codeIn (Mine.frame.heap_1 (World.params _)) _ _ = true; k_is)); (case hb => exact bind1 fun _ => by kernel_rfl!); (case hs => exact rfl)))
  (repeat (first | wtm_at "vc0" | (refine c_times (by with_reducible assumption) (by with_reducible assumption) (by omega) (fun _ _ _ => ?_)) | (refine c_rounded (by with_reducible assumption) (by omega) (fun _ _ _ => ?_)) | ((conv => whnf); first | wtm_at "vc0" | (refine c_times (by with_reducible assumption) (by with_reducible assumption) (by omega) (fun _ _ _ => ?_)) | (refine c_rounded (by with_reducible assumption) (by omega) (fun _ _ _ => ?_)))))
  (conv => whnf)
  refine c_det hk9 hm ha hb hc hd fun u1 u2 hu => ?_
  (conv => whnf)
  refine c_absolute ?_
  (conv => whnf)
  refine c_floor (k := j + j + (j + j) + 1) (by omega) hu.pos hu.bd ?_
  (conv => whnf)
  refine c_root (k := j + j + (j + j) + 1) (by omega) (nrs_arg0 (by omega) hu.pos) (fdiv_bd (by omega) hu.pos (hu.bn.of_abs (by omega))) fun r hr _ => ?_
  exact h u1 u2 r hu hr
end
end
section
set_option backward.match.sparseCases false
/-- a style's names -/
noncomputable abbrev stNs (wd j c l ds s : Dat) : MO := .ns [("width", wd), ("join", j), ("cap", c), ("limit", l), ("dashes", ds), ("start", s)]
section
variable {w : World} {D : Nat} {σ : Sto} {Q : Dat → Sto → Prop}
theorem k_Style {wd j c l s : Dat} {ds : List Dat} (h : ∀ x m, σ m = none → Q (.inst x 955 m) (σ.set m (stNs wd j c l (.tup ds) s))) : CallP w (D + 3) (.ref 955) [wd, j, c, l, .tup ds, s] σ Q := by
  refine call_class (fI := 938) (by (show makesIn (Mine.frame.heap_1 (World.params _)) _ = true); k_is) (by (show findIn (Mine.frame.heap_1 (World.params _)) _ _ = _); k_is) (by (show isFn (Mine.frame.heap_1 (World.params _)) _ = true); k_is) fun x m hm => ?_
  (refine' enterW (n := 60) (vars0 := [("self", .inst x 955 m), ("width", wd), ("join", j), ("cap", c), ("limit", l), ("dashes", .tup ds), ("start", s)]) ?ho ?hc ?hb ?hs ?hh; (case ho => (show List.lookup _ (Mine.frame.heap_1 (World.params _)) = _; k_is)); (case hc => (show codeIn (Mine.frame.heap_1 (World.params _)) _ _ = true; k_is)); (case hb => exact bindK7 fun s v1 v2 v3 v4 v5 v6 v7 X => binds_K X rfl (by (show List.lookup _ (Mine.frame.heap_1 (World.params _)) = _); k_is) rfl rfl (by kernel_rfl!)); (case hs => exact rfl))
  (repeat (first | wtm_at "vc0" | ((conv => whnf); wtm_at "vc0")))
  have h' := h x m hm
  (conv => whnf)
  simp only [Sto.set_set]
  exact h'
theorem c_half {x m : Addr} {n : Int} {j c l ds s : Dat} (hm : σ m = some (stNs (.int n) j c l ds s)) (h : Q (.int (n.fdiv 2)) σ) : CallP w (D + 2) (.ref 945) [.inst x 955 m] σ Q := by
  (refine CodeP.call ?_; (refine' enterW (n := 60) (vars0 := [("self", .inst x 955 m)]) ?ho ?hc ?hb ?hs ?hh; (case ho => (show List.lookup _ (Mine.frame.heap_1 (World.params _)) = _; k_is)); (case hc => (show codeIn (Mine.frame.heap_1 (World.params _)) _ _ = true; k_is)); (case hb => exact bind1 fun _ => by kernel_rfl!); (case hs => exact rfl)))
  (repeat (first | wtm_at "vc0" | ((conv => whnf); wtm_at "vc0")))
  exact h
theorem c_steps {k : Nat} (hk : k ≤ 1000) {x m : Addr} {n g : Int} {j c l ds s : Dat} (hm : σ m = some (stNs (.int n) j c l ds s)) (hg : 0 < g) (hb : Bd k g) (h : ∀ i, Q (.int i) σ) : CallP w (D + 4) (.ref 952) [.inst x 955 m, .int g] σ Q := by
  (refine CodeP.call ?_; (refine' enterW (n := 60) (vars0 := [("self", .inst x 955 m), ("grain", .int g)]) ?ho ?hc ?hb ?hs ?hh; (case ho => (show List.lookup _ (Mine.frame.heap_1 (World.params _)) = _; k_is)); (case hc => (show codeIn (Mine.frame.heap_1 (World.params _)) _ _ = true; k_is)); (case hb => exact bind2 fun _ _ => by kernel_rfl!); (case hs => exact rfl)))
  (repeat (first | wtm_at "vc0" | ((conv => whnf); wtm_at "vc0")))
  (conv => whnf)
  refine c_half hm ?_
  (conv => whnf)
  refine And.intro ⟨by omega, hb.py (by omega)⟩ ?_
  exact h _
theorem c_plain {x1 y1 x2 y2 : Int} (n1 : ¬(x2 = x1 ∧ y2 = y1)) (h : ∀ E σ', SLe σ σ' → σ E = none → σ' E = some (.list [sp x1 y1, sp x2 y2]) → Q (.tup [.val (.ref E), .val (.bool false)]) σ') : CallP w (D + 2) (.ref 966) [.tup [.tup [sp x1 y1, sp x2 y2], .val (.bool false)]] σ Q := by
  (refine CodeP.call ?_; (refine' enterW (n := 60) (vars0 := [("contour", .tup [.tup [sp x1 y1, sp x2 y2], .val (.bool false)])]) ?ho ?hc ?hb ?hs ?hh; (case ho => (show List.lookup _ (Mine.frame.heap_1 (World.params _)) = _; k_is)); (case hc => (show codeIn (Mine.frame.heap_1 (World.params _)) _ _ = true; k_is)); (case hb => exact bind1 fun _ => by kernel_rfl!); (case hs => exact rfl)))
  (conv => whnf)
  intro D0 hD0
  (repeat (first | wtm_at "vc0" | ((conv => whnf); wtm_at "vc0")))
  refine brn_eq (ne_sp n1) (brn_t ?_)
  (repeat (first | wtm_at "vc0" | ((conv => whnf); wtm_at "vc0")))
  refine whl (fun n v s' => n = 0 ∧ v = ([("found", .val (.ref D0)), ("is_closed", .val (.bool false))] : Vars) ∧ s' = _) 0 [("found", .val (.ref D0)), ("is_closed", .val (.bool false))] ?_ ⟨rfl, rfl, rfl⟩ ?_
  · exact ⟨rfl, rfl, trivial⟩
  rintro _ _ _ ⟨rfl, rfl, rfl⟩
  (repeat (first | wtm_at "vc0" | ((conv => whnf); wtm_at "vc0")))
  refine h D0 _ ?_ ?_ ?_
  · repeat' (first | exact SLe.rfl | with_reducible assumption | refine SLe.upd ?_ ?_ | apply none_of_set)
  · repeat' (first | with_reducible assumption | apply none_of_set)
  · wtm_at "sto"
end
end
section
set_option backward.match.sparseCases false
section
variable {w : World} {D : Nat} {σ : Sto} {Q : Dat → Sto → Prop}
theorem c_sides {k : Nat} (hk9 : k ≤ 100) {L : Addr} {a b c d g : Int} (hL : σ L = some (.list [sp a b, sp c d])) (ha : Bd k a) (hb : Bd k b) (hc : Bd k c) (hd : Bd k d) (hg : Bd k g) (hne : c - a ≠ 0)
    (h : ∀ x y E σ', NRS ((d - b) * g) ((c - a) * (c - a) + (d - b) * (d - b)) x → NRS (-(c - a) * g) ((c - a) * (c - a) + (d - b) * (d - b)) y → Bd (3 * k + 4) x → Bd (3 * k + 4) y → SLe σ σ' → σ E = none →
      σ' E = some (.list [.tup [sp (a + x) (b + y), sp (c + x) (d + y), sp (c + -x) (d + -y), sp (a + -x) (b + -y)]]) → Q (.val (.ref E)) σ') : CallP w (D + 10) (.ref 971) [.val (.ref L), .int g] σ Q := by
  (refine CodeP.call ?_; (refine' enterW (n := 60) (vars0 := [("line", .val (.ref L)), ("half", .int g)]) ?ho ?hc ?hb ?hs ?hh; (case ho => (show List.lookup _ (Mine.frame.heap_1 (World.params _)) = _; k_is)); (case hc => (show codeIn (Mine.frame.heap_1 (World.params _)) _ _ = true; k_is)); (case hb => exact bind2 fun _ _ => by kernel_rfl!); (case hs => exact rfl)))
  (repeat (first | wtm_at "vc0" | ((conv => whnf); wtm_at "vc0")))
  (conv => whnf)
  refine c_parallel hk9 ha hb hc hd hg hne fun x y hx hy bx byy => ?_
  (repeat (first | wtm_at "vc0" | ((conv => whnf); wtm_at "vc0")))
  exact h x y _ _ hx hy bx byy (by repeat' (first | exact SLe.rfl | with_reducible assumption | refine SLe.upd ?_ ?_ | apply none_of_set)) (by repeat' (first | with_reducible assumption | apply none_of_set)) (by wtm_at "sto")
theorem c_corners {L : Addr} {s1 s2 : Dat} (hL : σ L = some (.list [s1, s2])) (h : ∀ E σ', SLe σ σ' → σ E = none → σ' E = some (.list []) → Q (.val (.ref E)) σ') : CallP w (D + 2) (.ref 981) [.val (.ref L), .val (.bool false)] σ Q := by
  (refine CodeP.call ?_; (refine' enterW (n := 60) (vars0 := [("spots", .val (.ref L)), ("is_closed", .val (.bool false))]) ?ho ?hc ?hb ?hs ?hh; (case ho => (show List.lookup _ (Mine.frame.heap_1 (World.params _)) = _; k_is)); (case hc => (show codeIn (Mine.frame.heap_1 (World.params _)) _ _ = true; k_is)); (case hb => exact bind2 fun _ _ => by kernel_rfl!); (case hs => exact rfl)))
  (repeat (first | wtm_at "vc0" | ((conv => whnf); wtm_at "vc0")))
  exact h _ _ (by repeat' (first | exact SLe.rfl | with_reducible assumption | refine SLe.upd ?_ ?_ | apply none_of_set)) (by repeat' (first | with_reducible assumption | apply none_of_set)) (by wtm_at "sto")
theorem c_joins {L x m : Addr} {n : Int} {j c l ds s st : Dat} (hL : σ L = some (.list [])) (hm : σ m = some (stNs (.int n) j c l ds s)) (h : ∀ E σ', SLe σ σ' → σ E = none → σ' E = some (.list []) → Q (.val (.ref E)) σ') : CallP w (D + 4) (.ref 976) [.val (.ref L), .inst x 955 m, st] σ Q := by
  (refine CodeP.call ?_; (refine' enterW (n := 60) (vars0 := [("corners", .val (.ref L)), ("style", .inst x 955 m), ("steps", st)]) ?ho ?hc ?hb ?hs ?hh; (case ho => (show List.lookup _ (Mine.frame.heap_1 (World.params _)) = _; k_is)); (case hc => (show codeIn (Mine.frame.heap_1 (World.params _)) _ _ = true; k_is)); (case hb => exact bind3 fun _ _ _ => by kernel_rfl!); (case hs => exact rfl)))
  (repeat (first | wtm_at "vc0" | ((conv => whnf); wtm_at "vc0")))
  (conv => whnf)
  refine c_half hm ?_
  (repeat (first | wtm_at "vc0" | ((conv => whnf); wtm_at "vc0")))
  rename_i E hE
  replace hE : ((σ.del L).set L (.list [])) E = none := hE
  rw [Sto.del_set hL] at hE
  exact h E (((σ.del L).set L (.list [])).set E (.list [])) (by rw [Sto.del_set hL]; repeat' (first | exact SLe.rfl | with_reducible assumption | refine SLe.upd ?_ ?_ | apply none_of_set)) hE (by wtm_at "sto")
theorem c_cap {a b g st : Dat} (h : Q (.tup []) σ) : CallP w (D + 2) (.ref 790) [.str "butt", a, b, g, st] σ Q := by
  (refine CodeP.call ?_; (refine' enterW (n := 60) (vars0 := [("kind", .str "butt"), ("inner", a), ("end", b), ("half", g), ("steps", st)]) ?ho ?hc ?hb ?hs ?hh; (case ho => (show List.lookup _ (Mine.frame.heap_1 (World.params _)) = _; k_is)); (case hc => (show codeIn (Mine.frame.heap_1 (World.params _)) _ _ = true; k_is)); (case hb => exact bind5 fun _ _ _ _ _ => by kernel_rfl!); (case hs => exact rfl)))
  (repeat (first | wtm_at "vc0" | ((conv => whnf); wtm_at "vc0")))
  exact h
end
end
theorem sle_at {σ σ' : Sto} {a : Addr} {m : MO} (l : SLe σ σ') (h : σ a = some m) : σ' a = some m := l a m h
theorem neT {σ : Sto} {a b : Addr} {l : List Dat} {n : List (Str × Dat)} (h1 : σ a = some (.list l)) (h2 : σ b = some (.ns n)) : b ≠ a := fun e => by rw [e, h1] at h2; cases h2
local macro_rules | `(tactic| wtm_at "sto") => `(tactic| (refine sle_at (by with_reducible assumption) ?_; wtm_at "sto"))
section
variable {w : World} {D : Nat} {σ : Sto} {Q : Dat → Sto → Prop}
theorem c_strokedLine {k : Nat} (hk9 : k ≤ 100) {x m : Addr} {a b c d n : Int} {j l ds s st : Dat} (hm : σ m = some (stNs (.int n) j (.str "butt") l ds s)) (ha : Bd k a) (hb : Bd k b) (hc : Bd k c) (hd : Bd k d) (hg : Bd k (n.fdiv 2)) (hne : c - a ≠ 0)
    (h : ∀ u v E σ', NRS ((d - b) * n.fdiv 2) ((c - a) * (c - a) + (d - b) * (d - b)) u → NRS (-(c - a) * n.fdiv 2) ((c - a) * (c - a) + (d - b) * (d - b)) v → Bd (3 * k + 4) u → Bd (3 * k + 4) v → SLe σ σ' → σ E = none →
      σ' E = some (.list [.tup [sp (a + u) (b + v), sp (c + u) (d + v), sp (c + -u) (d + -v), sp (a + -u) (b + -v)], .tup [], .tup []]) → Q (.val (.ref E)) σ') : CallP w (D + 12) (.ref 988) [.tup [.tup [sp a b, sp c d], .val (.bool false)], .inst x 955 m, st] σ Q := by
  (refine CodeP.call ?_; (refine' enterW (n := 60) (vars0 := [("contour", .tup [.tup [sp a b, sp c d], .val (.bool false)]), ("style", .inst x 955 m), ("steps", st)]) ?ho ?hc ?hb ?hs ?hh; (case ho => (show List.lookup _ (Mine.frame.heap_1 (World.params _)) = _; k_is)); (case hc => (show codeIn (Mine.frame.heap_1 (World.params _)) _ _ = true; k_is)); (case hb => exact bind3 fun _ _ _ => by kernel_rfl!); (case hs => exact rfl)))
  (conv => whnf)
  refine c_plain (fun e => hne (by omega)) fun L σ1 l1 fL hL => ?_
  (repeat (first | wtm_at "vc0" | ((conv => whnf); wtm_at "vc0")))
  (conv => whnf)
  refine c_half (by wtm_at "sto") ?_
  (repeat (first | wtm_at "vc0" | ((conv => whnf); wtm_at "vc0")))
  (conv => whnf)
  refine c_sides hk9 (by wtm_at "sto") ha hb hc hd hg hne fun u v E1 σ2 hu hv bu bv l2 f1 hE1 => ?_
  (repeat (first | wtm_at "vc0" | ((conv => whnf); wtm_at "vc0")))
  (conv => whnf)
  refine c_corners (by wtm_at "sto") fun E2 σ3 l3 f2 hE2 => ?_
  (conv => whnf)
  have q1 : σ1 m = some (stNs (.int n) j (.str "butt") l ds s) := by wtm_at "sto"
  have q2 : σ2 m = some (stNs (.int n) j (.str "butt") l ds s) := by wtm_at "sto"
  have q3 : σ3 m = some (stNs (.int n) j (.str "butt") l ds s) := by wtm_at "sto"
  have ne : m ≠ E1 := neT hE1 q2
  have f1' : σ1 E1 = none := none_of_set f1
  have neL : L ≠ E1 := neS f1' hL
  have p2 : σ2 L = _ := l2 _ _ ((Sto.set_ne (neS (by with_reducible assumption) hL)).trans hL)
  have p3 : σ3 L = _ := l3 _ _ p2
  refine c_joins (by wtm_at "sto") q3 fun E3 σ4 l4 f3 hE3 => ?_
  have q4 : σ4 m = some (stNs (.int n) j (.str "butt") l ds s) := by wtm_at "sto"
  have pL : σ4 L = _ := l4 _ _ p3
  have p4 : σ4 E1 = _ := l4 _ _ (l3 _ _ hE1)
  (repeat (first | wtm_at "vc0" | ((conv => whnf); wtm_at "vc0")))
  (conv => whnf)
  refine c_cap ?_
  (repeat (first | wtm_at "vc0" | ((conv => whnf); wtm_at "vc0")))
  (conv => whnf)
  refine c_cap ?_
  (repeat (first | wtm_at "vc0" | ((conv => whnf); wtm_at "vc0")))
  refine h u v E1 _ hu hv bu bv ?_ ?_ ?_
  · exact (((((l1.upd (none_of_le l1 (by with_reducible assumption))).trans l2).trans l3).trans l4).upd (none_of_le l1 f1')).upd (none_of_le l1 f1') |>.upd (none_of_le l1 f1')
  · exact none_of_le l1 f1'
  · wtm_at "sto"
end
section
set_option backward.match.sparseCases false
section
variable {w : World} {D : Nat} {σ : Sto} {Q : Dat → Sto → Prop}
theorem k_Pattern {s : Dat} (h : ∀ x m σ', SLe σ σ' → σ m = none → σ' m = some (.ns [("lengths", .tup []), ("place", .int 0), ("left", .int 0)]) → Q (.inst x 854 m) σ') : CallP w (D + 3) (.ref 854) [.tup [], s] σ Q := by
  refine call_class (fI := 823) (by (show makesIn (Mine.frame.heap_1 (World.params _)) _ = true); k_is) (by (show findIn (Mine.frame.heap_1 (World.params _)) _ _ = _); k_is) (by (show isFn (Mine.frame.heap_1 (World.params _)) _ = true); k_is) fun x m hm => ?_
  (refine' enterW (n := 60) (vars0 := [("self", .inst x 854 m), ("lengths", .tup []), ("start", s)]) ?ho ?hc ?hb ?hs ?hh; (case ho => (show List.lookup _ (Mine.frame.heap_1 (World.params _)) = _; k_is)); (case hc => (show codeIn (Mine.frame.heap_1 (World.params _)) _ _ = true; k_is)); (case hb => exact bind3 fun _ _ _ => by kernel_rfl!); (case hs => exact rfl))
  (repeat (first | wtm_at "vc0" | ((conv => whnf); wtm_at "vc0")))
  (conv => whnf)
  refine Exists.intro ([] : List Int) (And.intro rfl ?_)
  (repeat (first | wtm_at "vc0" | ((conv => whnf); wtm_at "vc0")))
  refine h x m _ ?_ hm ?_
  · repeat' (first | exact SLe.rfl | with_reducible assumption | refine SLe.upd ?_ ?_ | apply none_of_set)
  · wtm_at "sto"
theorem c_isPlain {x m : Addr} {a b : Dat} (hm : σ m = some (.ns [("lengths", .tup []), ("place", a), ("left", b)])) (h : Q (.val (.bool true)) σ) : CallP w (D + 2) (.ref 830) [.inst x 854 m] σ Q := by
  (refine CodeP.call ?_; (refine' enterW (n := 60) (vars0 := [("self", .inst x 854 m)]) ?ho ?hc ?hb ?hs ?hh; (case ho => (show List.lookup _ (Mine.frame.heap_1 (World.params _)) = _; k_is)); (case hc => (show codeIn (Mine.frame.heap_1 (World.params _)) _ _ = true; k_is)); (case hb => exact bind1 fun _ => by kernel_rfl!); (case hs => exact rfl)))
  (repeat (first | wtm_at "vc0" | ((conv => whnf); wtm_at "vc0")))
  (conv => whnf)
  refine Exists.intro ([] : List Int) (And.intro rfl ?_)
  exact h
theorem c_dashed {sps : List Dat} {b : Bool} {s : Dat} (h : ∀ E σ', SLe σ σ' → σ E = none → σ' E = some (.list [.tup [.tup sps, .val (.bool b)]]) → Q (.val (.ref E)) σ') : CallP w (D + 5) (.ref 921) [.tup [.tup sps, .val (.bool b)], .tup [], s] σ Q := by
  (refine CodeP.call ?_; (refine' enterW (n := 60) (vars0 := [("contour", .tup [.tup sps, .val (.bool b)]), ("lengths", .tup []), ("start", s)]) ?ho ?hc ?hb ?hs ?hh; (case ho => (show List.lookup _ (Mine.frame.heap_1 (World.params _)) = _; k_is)); (case hc => (show codeIn (Mine.frame.heap_1 (World.params _)) _ _ = true; k_is)); (case hb => exact bind3 fun _ _ _ => by kernel_rfl!); (case hs => exact rfl)))
  (conv => whnf)
  refine k_Pattern fun x m σ1 l1 fm hm => ?_
  (repeat (first | wtm_at "vc0" | ((conv => whnf); wtm_at "vc0")))
  (conv => whnf)
  refine c_isPlain hm ?_
  (repeat (first | wtm_at "vc0" | ((conv => whnf); wtm_at "vc0")))
  rename_i E hE
  exact h E _ (l1.upd (none_of_le l1 hE)) (none_of_le l1 hE) (by wtm_at "sto")
end
end
section
set_option backward.match.sparseCases false
section
variable {w : World} {D : Nat} {σ : Sto} {Q : Dat → Sto → Prop}
theorem c_area0 {l : Addr} (hl : σ l = some (.list [])) (h : Q (.int 0) σ) : CallP w (D + 2) (.ref 680) [.val (.ref l)] σ Q := by
  (refine CodeP.call ?_; (refine' enterW (n := 60) (vars0 := [("spots", .val (.ref l))]) ?ho ?hc ?hb ?hs ?hh; (case ho => (show List.lookup _ (Mine.frame.heap_1 (World.params _)) = _; k_is)); (case hc => (show codeIn (Mine.frame.heap_1 (World.params _)) _ _ = true; k_is)); (case hb => exact bind1 fun _ => by kernel_rfl!); (case hs => exact rfl)))
  (repeat (first | wtm_at "vc0" | ((conv => whnf); wtm_at "vc0")))
  exact h
theorem c_sense0 (h : ∀ σ', SLe σ σ' → Q (.val .none) σ') : CallP w (D + 4) (.ref 687) [.tup []] σ Q := by
  (refine CodeP.call ?_; (refine' enterW (n := 60) (vars0 := [("spots", .tup [])]) ?ho ?hc ?hb ?hs ?hh; (case ho => (show List.lookup _ (Mine.frame.heap_1 (World.params _)) = _; k_is)); (case hc => (show codeIn (Mine.frame.heap_1 (World.params _)) _ _ = true; k_is)); (case hb => exact bind1 fun _ => by kernel_rfl!); (case hs => exact rfl)))
  (conv => whnf)
  intro D0 hD0
  (repeat (first | wtm_at "vc0" | ((conv => whnf); wtm_at "vc0")))
  refine whl (fun n v s' => n = 0 ∧ v = ([("found", .val (.ref D0))] : Vars) ∧ s' = _) 0 [("found", .val (.ref D0))] ?_ ⟨rfl, rfl, rfl⟩ ?_
  · exact ⟨rfl, trivial⟩
  rintro _ _ _ ⟨rfl, rfl, rfl⟩
  (repeat (first | wtm_at "vc0" | ((conv => whnf); wtm_at "vc0")))
  (conv => whnf)
  refine c_area0 (by wtm_at "sto") ?_
  (repeat (first | wtm_at "vc0" | ((conv => whnf); wtm_at "vc0")))
  exact h _ (by repeat' (first | exact SLe.rfl | with_reducible assumption | refine SLe.upd ?_ ?_ | apply none_of_set))
end
end
section
set_option backward.match.sparseCases false
section
variable {w : World} {D : Nat} {σ : Sto} {Q : Dat → Sto → Prop}
theorem c_stroked {k : Nat} (hk9 : k ≤ 100) {C x m : Addr} {a b c d n g s : Int} {j l : Dat} (hC : σ C = some (.list [.tup [.tup [sp a b, sp c d], .val (.bool false)]])) (hm : σ m = some (stNs (.int n) j (.str "butt") l (.tup []) (.int s))) (hg : 0 < g) (hbg : Bd k g)
    (ha : Bd k a) (hb : Bd k b) (hc : Bd k c) (hd : Bd k d) (hn : Bd k (n.fdiv 2)) (h1 : 1 ≤ n.fdiv 2) (hne : c - a ≠ 0)
    (geo : ∀ u v, NRS ((d - b) * n.fdiv 2) ((c - a) * (c - a) + (d - b) * (d - b)) u → NRS (-(c - a) * n.fdiv 2) ((c - a) * (c - a) + (d - b) * (d - b)) v →
      ¬(c + u = a + u ∧ d + v = b + v) ∧ ¬(c + -u = c + u ∧ d + -v = d + v) ∧ ¬(a + -u = c + -u ∧ b + -v = d + -v) ∧ ¬(a + -u = a + u ∧ b + -v = b + v) ∧
      0 < 0 + ((a + -u) * (b + v) - (b + -v) * (a + u)) + ((a + u) * (d + v) - (b + v) * (c + u)) + ((c + u) * (d + -v) - (d + v) * (c + -u)) + ((c + -u) * (b + -v) - (d + -v) * (a + -u)))
    (h : ∀ u v E σ', NRS ((d - b) * n.fdiv 2) ((c - a) * (c - a) + (d - b) * (d - b)) u → NRS (-(c - a) * n.fdiv 2) ((c - a) * (c - a) + (d - b) * (d - b)) v → SLe σ σ' → σ E = none →
      σ' E = some (.list [.tup [.tup [sp (a + u) (b + v), sp (c + u) (d + v), sp (c + -u) (d + -v), sp (a + -u) (b + -v)], .val (.bool true)]]) → Q (.val (.ref E)) σ') : CallP w (D + 14) (.ref 995) [.val (.ref C), .inst x 955 m, .int g] σ Q := by
  (refine CodeP.call ?_; (refine' enterW (n := 60) (vars0 := [("contours", .val (.ref C)), ("style", .inst x 955 m), ("grain", .int g)]) ?ho ?hc ?hb ?hs ?hh; (case ho => (show List.lookup _ (Mine.frame.heap_1 (World.params _)) = _; k_is)); (case hc => (show codeIn (Mine.frame.heap_1 (World.params _)) _ _ = true; k_is)); (case hb => exact bind3 fun _ _ _ => by kernel_rfl!); (case hs => exact rfl)))
  (conv => whnf)
  intro E hE
  (repeat (first | wtm_at "vc0" | ((conv => whnf); wtm_at "vc0")))
  (conv => whnf)
  refine c_half (by wtm_at "sto") ?_
  refine brn_eq (decide_eq_false (by omega)) (brn_f ?_)
  (repeat (first | wtm_at "vc0" | ((conv => whnf); wtm_at "vc0")))
  (conv => whnf)
  refine c_steps (k := k) (by omega) (by wtm_at "sto") hg hbg fun i => ?_
  (repeat (first | wtm_at "vc0" | ((conv => whnf); wtm_at "vc0")))
  have nmC : m ≠ C := neT hC hm
  have q0 : ((σ.set E (.list [])).del C) m = some (stNs (.int n) j (.str "butt") l (.tup []) (.int s)) := (Sto.del_ne nmC).trans ((Sto.set_ne (neS hE hm)).trans hm)
  (repeat (first | wtm_at "vc0" | ((conv => whnf); wtm_at "vc0")))
  (conv => whnf)
  refine c_dashed fun L1 σ1 l1 f1 hL1 => ?_
  have q1 := l1 _ _ q0
  (repeat (first | wtm_at "vc0" | ((conv => whnf); wtm_at "vc0")))
  have n1 : m ≠ L1 := neT hL1 q1
  have q1' : (σ1.del L1) m = _ := (Sto.del_ne n1).trans q1
  (conv => whnf)
  refine c_strokedLine hk9 q1' ha hb hc hd hn hne fun u v L2 σ2 hu hv bu bv l2 f2 hL2 => ?_
  obtain ⟨g1, g2, g3, g4, g5⟩ := geo u v hu hv
  (repeat (first | wtm_at "vc0" | ((conv => whnf); wtm_at "vc0")))
  have e0 : ((σ.set E (.list [])).del C) E = some (.list []) := (Sto.del_ne (Ne.symm (neS hE hC))).trans Sto.set_same
  have e1 := l1 _ _ e0
  have e1' : (σ1.del L1) E = _ := (Sto.del_ne (neS f1 e0)).trans e1
  have e2 := l2 _ _ e1'
  have e2' : (σ2.del L2) E = _ := (Sto.del_ne (neS f2 e1')).trans e2
  have up : ∀ {p q : Int}, Bd k p → Bd (3 * k + 4) q → Bd (3 * k + 5) (p + q) := fun h1 h2 => Bd.add (h1.le (by omega)) h2
  (conv => whnf)
  refine c_sense (k := 3 * k + 5) (by omega) (up ha bu) (up hb bv) (up hc bu) (up hd bv) (up hc bu.neg) (up hd bv.neg) (up ha bu.neg) (up hb bv.neg) g1 g2 g3 g4 g5 fun σ3 l3 => ?_
  have e3 := l3 _ _ e2'
  (repeat (first | wtm_at "vc0" | ((conv => whnf); wtm_at "vc0")))
  (conv => whnf)
  refine c_sense0 fun σ4 l4 => ?_
  (repeat (first | wtm_at "vc0" | ((conv => whnf); wtm_at "vc0")))
  (conv => whnf)
  refine c_sense0 fun σ5 l5 => ?_
  (repeat (first | wtm_at "vc0" | ((conv => whnf); wtm_at "vc0")))
  have nE1 : E ≠ L1 := neS f1 e0
  have nE2 : E ≠ L2 := neS f2 e1'
  have nEC : E ≠ C := Ne.symm (neS hE hC)
  have e5 : σ5 E = _ := l5 _ _ ((l4 _ _ Sto.set_same))
  refine h u v E ((((σ5.set L2 _).set L1 _).set C _)) hu hv ?_ hE ?_
  · intro y my hy
    by_cases eC : y = C
    · subst eC
      rw [hC] at hy
      rw [← hy]
      exact Sto.set_same
    · have nyE : y ≠ E := neS hE hy
      have y0 : ((σ.set E (.list [])).del C) y = some my := (Sto.del_ne eC).trans ((Sto.set_ne nyE).trans hy)
      have nyL1 : y ≠ L1 := neS f1 y0
      have y1' : (σ1.del L1) y = some my := (Sto.del_ne nyL1).trans (l1 _ _ y0)
      have nyL2 : y ≠ L2 := neS f2 y1'
      have y2' : (σ2.del L2) y = some my := (Sto.del_ne nyL2).trans (l2 _ _ y1')
      exact (Sto.set_ne eC).trans ((Sto.set_ne nyL1).trans ((Sto.set_ne nyL2).trans (l5 _ _ (l4 _ _ ((Sto.set_ne nyE).trans (l3 _ _ y2'))))))
  · exact (Sto.set_ne nEC).trans ((Sto.set_ne nE1).trans ((Sto.set_ne nE2).trans e5))
end
end
section
set_option backward.match.sparseCases false
section
variable {w : World} {D : Nat} {σ : Sto} {Q : Dat → Sto → Prop}
theorem c_rspot {k : Nat} (hk : k ≤ 1000) {x y : Int} (hx : Bd k x) (hy : Bd k y) (h : Q (sp x y) σ) : CallP w (D + 2) (.ref 459) [sp (x * 256) (y * 256), .int 256] σ Q := by
  have e : ∀ z : Int, (2 * (z * 256) + 256).fdiv (2 * 256) = z := fun z => by
    rw [Int.fdiv_eq_ediv_of_nonneg _ (by decide)]; omega
  (refine CodeP.call ?_; (refine' enterW (n := 60) (vars0 := [("spot", sp (x * 256) (y * 256)), ("many", .int 256)]) ?ho ?hc ?hb ?hs ?hh; (case ho => (show List.lookup _ (Mine.frame.heap_1 (World.params _)) = _; k_is)); (case hc => (show codeIn (Mine.frame.heap_1 (World.params _)) _ _ = true; k_is)); (case hb => exact bind2 fun _ _ => by kernel_rfl!); (case hs => exact rfl)))
  have b1 : Bd (k + 9) (x * 256) := Bd.mul hx (Bd.lit (k := 9) (by decide))
  have b2 : Bd (k + 9) (y * 256) := Bd.mul hy (Bd.lit (k := 9) (by decide))
  have p1 : ∀ z : Int, Builtin.divisionGoesByPylong z (2 * 256) = false := fun z => (Bd.lit (k := 10) (by decide)).py (by decide)
  (repeat (first | wtm_at "vc0" | ((conv => whnf); wtm_at "vc0")))
  rw [← e x, ← e y] at h
  exact h
theorem c_unlike0 {l : Addr} (hl : σ l = some (.list [])) (h : ∀ E σ', SLe σ σ' → σ E = none → σ' E = some (.list []) → Q (.val (.ref E)) σ') : CallP w (D + 2) (.ref 466) [.val (.ref l)] σ Q := by
  (refine CodeP.call ?_; (refine' enterW (n := 60) (vars0 := [("spots", .val (.ref l))]) ?ho ?hc ?hb ?hs ?hh; (case ho => (show List.lookup _ (Mine.frame.heap_1 (World.params _)) = _; k_is)); (case hc => (show codeIn (Mine.frame.heap_1 (World.params _)) _ _ = true; k_is)); (case hb => exact bind1 fun _ => by kernel_rfl!); (case hs => exact rfl)))
  (repeat (first | wtm_at "vc0" | ((conv => whnf); wtm_at "vc0")))
  rename_i E hE
  replace hE : σ E = none := hE
  refine h E ((σ.set E (.list [])).del l |>.set l (.list [])) ?_ hE ?_
  · intro y my hy
    by_cases el : y = l
    · subst el
      rw [hl] at hy
      rw [← hy]
      exact Sto.set_same
    · exact (Sto.set_ne el).trans ((Sto.del_ne el).trans ((Sto.set_ne (neS hE hy)).trans hy))
  · have : E ≠ l := Ne.symm (neS hE hl)
    exact (Sto.set_ne this).trans ((Sto.del_ne this).trans Sto.set_same)
end
end
section
set_option backward.match.sparseCases false
section
variable {w : World} {D : Nat} {σ : Sto} {Q : Dat → Sto → Prop}
theorem c_flat2 {s1 s2 b : Dat} (h : Q (.val (.bool true)) σ) : CallP w (D + 2) (.ref 433) [.tup [s1, s2], b] σ Q := by
  (refine CodeP.call ?_; (refine' enterW (n := 60) (vars0 := [("spots", .tup [s1, s2]), ("bound", b)]) ?ho ?hc ?hb ?hs ?hh; (case ho => (show List.lookup _ (Mine.frame.heap_1 (World.params _)) = _; k_is)); (case hc => (show codeIn (Mine.frame.heap_1 (World.params _)) _ _ = true; k_is)); (case hb => exact bind2 fun _ _ => by kernel_rfl!); (case hs => exact rfl)))
  (repeat (first | wtm_at "vc0" | ((conv => whnf); wtm_at "vc0")))
  first | exact h | (refine And.intro (by first | exact .inl rfl | exact .inr ⟨_, rfl, rfl⟩) ?_; (repeat (first | wtm_at "vc0" | ((conv => whnf); wtm_at "vc0"))); exact h)
end
end
section
set_option backward.match.sparseCases false
section
variable {w : World} {D : Nat} {σ : Sto} {Q : Dat → Sto → Prop}
theorem c_flatSpots {L : Addr} {x1 y1 x2 y2 : Int} {b : Dat} (hL : σ L = some (.list [(sp x1 y1), sp x2 y2])) (h : ∀ E σ', SLe σ σ' → σ E = none → σ' E = some (.list [sp x2 y2]) → Q (.val (.ref E)) σ') : CallP w (D + 4) (.ref 452) [.val (.ref L), b, .int 8] σ Q := by
  (refine CodeP.call ?_; (refine' enterW (n := 60) (vars0 := [("spots", .val (.ref L)), ("bound", b), ("most", .int 8)]) ?ho ?hc ?hb ?hs ?hh; (case ho => (show List.lookup _ (Mine.frame.heap_1 (World.params _)) = _; k_is)); (case hc => (show codeIn (Mine.frame.heap_1 (World.params _)) _ _ = true; k_is)); (case hb => exact bind3 fun _ _ _ => by kernel_rfl!); (case hs => exact rfl)))
  (repeat (first | wtm_at "vc0" | ((conv => whnf); wtm_at "vc0")))
  rename_i E fE F fF
  replace fF : (σ.set E (.list [])) F = none := fF
  have gF : σ F = none := none_of_set fF
  have nEF : E ≠ F := neS fF Sto.set_same
  refine whl (fun n v s' => v = ([("found", .val (.ref E)), ("left", .val (.ref F)), ("bound", b), ("most", .int 8)] : Vars) ∧ SLe σ s' ∧ ((n = 1 ∧ s' E = some (.list []) ∧ s' F = some (.list [.tup [.tup [(sp x1 y1), sp x2 y2], .int 0]])) ∨ (n = 0 ∧ s' E = some (.list [sp x2 y2]) ∧ s' F = some (.list [])))) 1 [("found", .val (.ref E)), ("left", .val (.ref F)), ("bound", b), ("most", .int 8)] ?_ ⟨rfl, by repeat' (first | exact SLe.rfl | with_reducible assumption | refine SLe.upd ?_ ?_ | apply none_of_set), .inl ⟨rfl, by wtm_at "sto", by wtm_at "sto"⟩⟩ ?_
  · exact ⟨rfl, rfl, rfl, rfl, trivial⟩
  rintro n _ s' ⟨rfl, l1, ⟨rfl, h1, h2⟩ | ⟨rfl, h1, h2⟩⟩
  · (repeat (first | wtm_at "vc0" | ((conv => whnf); wtm_at "vc0")))
    (conv => whnf)
    refine c_flat2 ?_
    (repeat (first | wtm_at "vc0" | ((conv => whnf); wtm_at "vc0")))
    exact ⟨0, [("found", .val (.ref E)), ("left", .val (.ref F)), ("bound", b), ("most", .int 8)], by decide, ⟨rfl, rfl, rfl, rfl, trivial⟩, rfl, ((l1.upd (none_of_le l1 (by with_reducible assumption))).upd gF).upd fE, .inr ⟨rfl, Sto.set_same, (Sto.set_ne (Ne.symm nEF)).trans Sto.set_same⟩⟩
  · (repeat (first | wtm_at "vc0" | ((conv => whnf); wtm_at "vc0")))
    exact h E _ (l1.upd (none_of_le l1 (by with_reducible assumption))) fE ((Sto.set_ne (neS (by with_reducible assumption) h1)).trans h1)
end
end
section
set_option backward.match.sparseCases false
noncomputable abbrev flNs (mx g c st he sp : Dat) : MO := .ns [("matrix", mx), ("most", .int 8), ("many", .int 256), ("grain", g), ("bound", .int 256), ("contours", c), ("start", st), ("here", he), ("spots", sp)]
section
variable {w : World} {D : Nat} {σ : Sto} {Q : Dat → Sto → Prop}
theorem k_Flattener {mx : Dat} {k : Nat} (hk : k ≤ 1000) {g : Int} (hg : Bd k g) (h : ∀ x m C S σ', SLe σ σ' → σ m = none → σ C = none → σ S = none → C ≠ S → σ' C = some (.list []) → σ' S = some (.list []) → σ' m = some (flNs mx (.int (g * 256)) (.val (.ref C)) (.val .none) (.val .none) (.val (.ref S))) → Q (.inst x 528 m) σ') :
    CallP w (D + 3) (.ref 528) [mx, .int g, .int 1, .int 8] σ Q := by
  refine call_class (fI := 480) (by (show makesIn (Mine.frame.heap_1 (World.params _)) _ = true); k_is) (by (show findIn (Mine.frame.heap_1 (World.params _)) _ _ = _); k_is) (by (show isFn (Mine.frame.heap_1 (World.params _)) _ = true); k_is) fun x m hm => ?_
  (refine' enterW (n := 60) (vars0 := [("self", .inst x 528 m), ("matrix", mx), ("grain", .int g), ("bound", .int 1), ("most", .int 8)]) ?ho ?hc ?hb ?hs ?hh; (case ho => (show List.lookup _ (Mine.frame.heap_1 (World.params _)) = _; k_is)); (case hc => (show codeIn (Mine.frame.heap_1 (World.params _)) _ _ = true; k_is)); (case hb => exact bind5 fun _ _ _ _ _ => by kernel_rfl!); (case hs => exact rfl))
  (repeat (first | wtm_at "vc0" | ((conv => whnf); wtm_at "vc0")))
  rename_i C hC S hS
  (conv => whnf)
  refine h x m C S _ ?_ hm ?_ ?_ ?_ ?_ ?_ ?_
  · repeat' (first | exact SLe.rfl | with_reducible assumption | refine SLe.upd ?_ ?_ | apply none_of_set)
  · repeat' (first | with_reducible assumption | apply none_of_set)
  · repeat' (first | with_reducible assumption | apply none_of_set)
  · exact neS hS (by wtm_at "sto")
  · wtm_at "sto"
  · wtm_at "sto"
  · wtm_at "sto"
end
end
section
set_option backward.match.sparseCases false
section
variable {w : World} {D : Nat} {σ : Sto} {Q : Dat → Sto → Prop}
theorem c_end0 {x m C S : Addr} {mx g st he : Dat} (hm : σ m = some (flNs mx g (.val (.ref C)) st he (.val (.ref S)))) (hS : σ S = some (.list []))
    (h : ∀ S' σ', (∀ y my, y ≠ m → σ y = some my → σ' y = some my) → σ S' = none → σ' S' = some (.list []) → σ' m = some (flNs mx g (.val (.ref C)) st he (.val (.ref S'))) → Q (.val .none) σ') : CallP w (D + 4) (.ref 499) [.inst x 528 m, .val (.bool false)] σ Q := by
  (refine CodeP.call ?_; (refine' enterW (n := 60) (vars0 := [("self", .inst x 528 m), ("is_closed", .val (.bool false))]) ?ho ?hc ?hb ?hs ?hh; (case ho => (show List.lookup _ (Mine.frame.heap_1 (World.params _)) = _; k_is)); (case hc => (show codeIn (Mine.frame.heap_1 (World.params _)) _ _ = true; k_is)); (case hb => exact bind2 fun _ _ => by kernel_rfl!); (case hs => exact rfl)))
  (repeat (first | wtm_at "vc0" | ((conv => whnf); wtm_at "vc0")))
  (conv => whnf)
  rename_i E0 fE0
  replace fE0 : ((σ.del S).set S (.list [])) E0 = none := fE0
  rw [Sto.del_set hS] at fE0
  have nmE0 : m ≠ E0 := neS fE0 hm
  have nm : m ≠ S := neT hS hm
  refine c_unlike0 Sto.set_same fun E1 σ1 l1 f1 h1 => ?_
  have l0 : SLe (σ.set E0 (.list [])) σ1 := fun y my hy => l1 y my (by
    show (((σ.del S).set S (.list [])).set E0 (.list [])) y = some my
    rw [Sto.del_set hS]; exact hy)
  have m1 : σ1 m = some (flNs mx g (.val (.ref C)) st he (.val (.ref S))) := l0 _ _ ((Sto.set_ne nmE0).trans hm)
  have s1 : σ1 S = some (.list []) := l0 _ _ ((Sto.set_ne (neS fE0 hS)).trans hS)
  (repeat (first | wtm_at "vc0" | ((conv => whnf); wtm_at "vc0")))
  (conv => whnf)
  rename_i S' fS'
  have fS : (σ.set E0 (.list [])) S' = none := none_of_le l0 fS'
  refine h S' _ (fun y my ny hy => ?_) (none_of_set fS) ?_ Sto.set_same
  · have y1 := l0 _ _ ((Sto.set_ne (neS fE0 hy)).trans hy)
    exact (Sto.set_ne ny).trans ((Sto.set_ne (neS fS' y1)).trans y1)
  · exact (Sto.set_ne (Ne.symm (neS fS' m1))).trans Sto.set_same
end
end
section
set_option backward.match.sparseCases false
noncomputable abbrev idNs : MO := mxNs (sp 1 1) (sp 0 1) (sp 0 1) (sp 1 1) (sp 0 1) (sp 0 1)
theorem rnd_int {q : Rat} {u z : Int} (e : q = (z : Rat)) (h : Rnd q u) : u = z := by
  have := h.eq (t := z) (b := 1) (by decide) (by rw [val_one, e])
  rw [this, Int.fdiv_eq_ediv_of_nonneg _ (by decide)]; omega
theorem F.one : F 1 1 1 1 := ⟨by decide, Bd.lit (by decide), Bd.lit (by decide), by rw [val_one]; rfl⟩
theorem F.zero : F 1 0 0 1 := ⟨by decide, Bd.lit (by decide), Bd.lit (by decide), by rw [val_one]; rfl⟩
/-- what stood stands but at an address -/
noncomputable def SLx (m : Addr) (σ σ' : Sto) : Prop := ∀ y my, y ≠ m → σ y = some my → σ' y = some my
section
variable {w : World} {D : Nat} {σ : Sto} {Q : Dat → Sto → Prop}
theorem c_fine {x mx m mm : Addr} {G X Y : Int} {c st he sps : Dat} (hm : σ m = some (flNs (.inst mx 599 mm) (.int G) c st he sps)) (hmm : σ mm = some idNs) (hG : Bd 60 G) (hX : Bd 60 X) (hY : Bd 60 Y) (h : Q (sp (X * G) (Y * G)) σ) :
    CallP w (D + 14) (.ref 487) [.inst x 528 m, .tup [sp X 1, sp Y 1]] σ Q := by
  (refine CodeP.call ?_; (refine' enterW (n := 60) (vars0 := [("self", .inst x 528 m), ("p", .tup [sp X 1, sp Y 1])]) ?ho ?hc ?hb ?hs ?hh; (case ho => (show List.lookup _ (Mine.frame.heap_1 (World.params _)) = _; k_is)); (case hc => (show codeIn (Mine.frame.heap_1 (World.params _)) _ _ = true; k_is)); (case hb => exact bind2 fun _ _ => by kernel_rfl!); (case hs => exact rfl)))
  (repeat (first | wtm_at "vc0" | ((conv => whnf); wtm_at "vc0")))
  (conv => whnf)
  refine c_spot (j := 1) (k := 60) (by decide) hmm F.one F.zero F.zero F.one F.zero F.zero (F.whole hX) (F.whole hY) hG fun u v hu hv _ _ => ?_
  have e1 := rnd_int (z := X * G) (by rw [Rat.intCast_mul]; grind) hu
  have e2 := rnd_int (z := Y * G) (by rw [Rat.intCast_mul]; grind) hv
  subst e1; subst e2
  exact h
theorem c_begin {x mx m mm C S : Addr} {G X Y : Int} {st he : Dat} (hm : σ m = some (flNs (.inst mx 599 mm) (.int G) (.val (.ref C)) st he (.val (.ref S)))) (hS : σ S = some (.list [])) (hmm : σ mm = some idNs) (nmm : mm ≠ m) (hG : Bd 60 G) (hX : Bd 60 X) (hY : Bd 60 Y)
    (h : ∀ S' σ', SLx m σ σ' → σ S' = none → σ' S' = some (.list [sp (X * G) (Y * G)]) → σ' m = some (flNs (.inst mx 599 mm) (.int G) (.val (.ref C)) (.tup [sp X 1, sp Y 1]) (.tup [sp X 1, sp Y 1]) (.val (.ref S'))) → Q (.val .none) σ') :
    CallP w (D + 16) (.ref 494) [.inst x 528 m, .tup [sp X 1, sp Y 1]] σ Q := by
  (refine CodeP.call ?_; (refine' enterW (n := 60) (vars0 := [("self", .inst x 528 m), ("p", .tup [sp X 1, sp Y 1])]) ?ho ?hc ?hb ?hs ?hh; (case ho => (show List.lookup _ (Mine.frame.heap_1 (World.params _)) = _; k_is)); (case hc => (show codeIn (Mine.frame.heap_1 (World.params _)) _ _ = true; k_is)); (case hb => exact bind2 fun _ _ => by kernel_rfl!); (case hs => exact rfl)))
  (repeat (first | wtm_at "vc0" | ((conv => whnf); wtm_at "vc0")))
  (conv => whnf)
  refine c_end0 hm hS fun S1 σ1 l1 f1 h1 m1 => ?_
  (repeat (first | wtm_at "vc0" | ((conv => whnf); wtm_at "vc0")))
  (conv => whnf)
  have nSm : m ≠ S1 := neS f1 hm
  refine c_fine (st := .tup [sp X 1, sp Y 1]) (he := .tup [sp X 1, sp Y 1]) Sto.set_same ((Sto.set_ne nmm).trans ((Sto.set_ne nmm).trans (l1 _ _ nmm hmm))) hG hX hY ?_
  (repeat (first | wtm_at "vc0" | ((conv => whnf); wtm_at "vc0")))
  (conv => whnf)
  rename_i S2 f2
  replace f2 : (((σ1.set m _).set m (flNs (.inst mx 599 mm) (.int G) (.val (.ref C)) (.tup [sp X 1, sp Y 1]) (.tup [sp X 1, sp Y 1]) (.val (.ref S1)))) S2 = none) := f2
  have n2 : m ≠ S2 := neS f2 Sto.set_same
  have g2 : σ1 S2 = none := none_of_set (none_of_set f2)
  have g0 : σ S2 = none := by
    cases e : σ S2 with
    | none => rfl
    | some my => rw [l1 _ _ (Ne.symm n2) e] at g2; cases g2
  refine h S2 _ (fun y my ny hy => ?_) g0 ?_ Sto.set_same
  · exact (Sto.set_ne ny).trans ((Sto.set_ne (neS g0 hy)).trans ((Sto.set_ne ny).trans ((Sto.set_ne ny).trans (l1 _ _ ny hy))))
  · exact (Sto.set_ne (Ne.symm n2)).trans Sto.set_same
end
end
local macro_rules | `(tactic| wtm_at "sto") => `(tactic| ((first | refine (Sto.set_ne ?_).trans ?_ | refine (Sto.del_ne ?_).trans ?_); (with_reducible first | assumption | exact Ne.symm (by assumption) | exact neS (by assumption) (by assumption) | exact Ne.symm (neS (by assumption) (by assumption))); wtm_at "sto"))
section
variable {w : World} {D : Nat} {σ : Sto} {Q : Dat → Sto → Prop}
theorem c_go {x mx m mm S L : Addr} {G X Y : Int} {c st : Dat} {he : List Dat} {x1 y1 : Int} (hm : σ m = some (flNs (.inst mx 599 mm) (.int G) c st (.tup he) (.val (.ref S)))) (hS : σ S = some (.list [sp x1 y1])) (hL : σ L = some (.list [.tup [sp X 1, sp Y 1]])) (nSL : S ≠ L) (hmm : σ mm = some idNs) (nmm : mm ≠ m) (hG : Bd 60 G) (hX : Bd 60 X) (hY : Bd 60 Y)
    (h : ∀ σ', (∀ y my, y ≠ m → y ≠ S → σ y = some my → σ' y = some my) → σ' S = some (.list [sp x1 y1, sp (X * G) (Y * G)]) → σ' m = some (flNs (.inst mx 599 mm) (.int G) c st (.tup [sp X 1, sp Y 1]) (.val (.ref S))) → Q (.val .none) σ') :
    CallP w (D + 16) (.ref 504) [.inst x 528 m, .val (.ref L)] σ Q := by
  (refine CodeP.call ?_; (refine' enterW (n := 60) (vars0 := [("self", .inst x 528 m), ("points", .val (.ref L))]) ?ho ?hc ?hb ?hs ?hh; (case ho => (show List.lookup _ (Mine.frame.heap_1 (World.params _)) = _; k_is)); (case hc => (show codeIn (Mine.frame.heap_1 (World.params _)) _ _ = true; k_is)); (case hb => exact bind2 fun _ _ => by kernel_rfl!); (case hs => exact rfl)))
  (repeat (first | wtm_at "vc0" | ((conv => whnf); wtm_at "vc0")))
  have nL : m ≠ L := neT hL hm
  have nS : m ≠ S := neT hS hm
  have nmL : mm ≠ L := neT hL hmm
  have nmS : mm ≠ S := neT hS hmm
  (conv => whnf)
  rename_i B fB
  (repeat (first | wtm_at "vc0" | ((conv => whnf); wtm_at "vc0")))
  (conv => whnf)
  refine c_fine (D := D) (by wtm_at "sto") (by wtm_at "sto") hG hX hY ?_
  (repeat (first | wtm_at "vc0" | ((conv => whnf); wtm_at "vc0")))
  (conv => whnf)
  rename_i F fF P fP R fR
  refine c_flatSpots (L := R) Sto.set_same fun E σ1 l1 f1 h1 => ?_
  have e0 : (((σ.set B (.list [])).del L).set L (.list [.tup [sp X 1, sp Y 1]])) = σ.set B (.list []) := Sto.del_set (by wtm_at "sto")
  replace fF : (((σ.set B (.list [])).del L).set L (.list [.tup [sp X 1, sp Y 1]])) F = none := fF
  replace fP : ((((σ.set B (.list [])).del L).set L (.list [.tup [sp X 1, sp Y 1]])).set F (.list [sp (X * G) (Y * G)])) P = none := fP
  replace fR : (((((σ.set B (.list [])).del L).set L (.list [.tup [sp X 1, sp Y 1]])).set F (.list [sp (X * G) (Y * G)])).set P (.list [sp x1 y1])) R = none := fR
  rw [e0] at fF fP fR
  have l0 : SLe (((((σ.set B (.list [])).del L).set L (.list [.tup [sp X 1, sp Y 1]])).set F (.list [sp (X * G) (Y * G)])).set P (.list [sp x1 y1]) |>.set R (.list [sp x1 y1, sp (X * G) (Y * G)])) σ1 := l1
  rw [e0] at l0
  have l2 : SLe σ σ1 := SLe.trans (by repeat' (first | exact SLe.rfl | with_reducible assumption | refine SLe.upd ?_ ?_ | apply none_of_set)) l0
  have m2 := l2 _ _ hm
  have S2 := l2 _ _ hS
  (repeat (first | wtm_at "vc0" | ((conv => whnf); wtm_at "vc0")))
  (conv => whnf)
  refine h _ (fun y my n1 n2 hy => ?_) ?_ Sto.set_same
  · exact (Sto.set_ne n1).trans ((Sto.set_ne n2).trans (l2 _ _ hy))
  · exact (Sto.set_ne (Ne.symm nS)).trans Sto.set_same
end
section
set_option backward.match.sparseCases false
section
variable {w : World} {D : Nat} {σ : Sto} {Q : Dat → Sto → Prop}
theorem c_unlike2 {l : Addr} {x1 y1 x2 y2 : Int} (n1 : ¬(x1 = x2 ∧ y1 = y2)) (hl : σ l = some (.list [sp x1 y1, sp x2 y2])) (h : ∀ E σ', SLe σ σ' → σ E = none → σ' E = some (.list [sp x1 y1, sp x2 y2]) → Q (.val (.ref E)) σ') : CallP w (D + 2) (.ref 466) [.val (.ref l)] σ Q := by
  (refine CodeP.call ?_; (refine' enterW (n := 60) (vars0 := [("spots", .val (.ref l))]) ?ho ?hc ?hb ?hs ?hh; (case ho => (show List.lookup _ (Mine.frame.heap_1 (World.params _)) = _; k_is)); (case hc => (show codeIn (Mine.frame.heap_1 (World.params _)) _ _ = true; k_is)); (case hb => exact bind1 fun _ => by kernel_rfl!); (case hs => exact rfl)))
  (repeat (first | wtm_at "vc0" | ((conv => whnf); wtm_at "vc0")))
  rename_i E fE T1 f1 T2 f2
  have nE : E ≠ l := Ne.symm (neS fE hl)
  have n1E : E ≠ T1 := neS f1 ((Sto.del_ne nE).trans Sto.set_same)
  have n2E : E ≠ T2 := neS f2 Sto.set_same
  (repeat (first | wtm_at "vc0" | ((conv => whnf); wtm_at "vc0")))
  refine brn_eq (ne_sp n1) (brn_t ?_)
  (repeat (first | wtm_at "vc0" | ((conv => whnf); wtm_at "vc0")))
  (conv => whnf)
  refine h E _ (fun y my hy => ?_) fE ?_
  · by_cases el : y = l
    · subst el
      rw [hl] at hy
      rw [← hy]
      exact Sto.set_same
    · have nyE : y ≠ E := neS fE hy
      have y1 : ((σ.set E (.list [])).del l) y = some my := (Sto.del_ne el).trans ((Sto.set_ne nyE).trans hy)
      have ny1 : y ≠ T1 := neS f1 y1
      have ny2 : y ≠ T2 := neS f2 ((Sto.set_ne nyE).trans ((Sto.set_ne ny1).trans y1))
      exact (Sto.set_ne el).trans ((Sto.set_ne nyE).trans ((Sto.set_ne ny2).trans ((Sto.set_ne nyE).trans ((Sto.set_ne ny1).trans y1))))
  · exact (Sto.set_ne nE).trans Sto.set_same
theorem c_end2 {k : Nat} (hk : k ≤ 500) {x m C S : Addr} {mx g st he : Dat} {x1 y1 x2 y2 : Int} (n1 : ¬(x1 = x2 ∧ y1 = y2)) (b1 : Bd k x1) (b2 : Bd k y1) (b3 : Bd k x2) (b4 : Bd k y2) (hm : σ m = some (flNs mx g (.val (.ref C)) st he (.val (.ref S)))) (hS : σ S = some (.list [sp (x1 * 256) (y1 * 256), sp (x2 * 256) (y2 * 256)])) (hC : σ C = some (.list [])) (nSC : S ≠ C)
    (h : ∀ Z σ', (∀ y my, y ≠ m → y ≠ C → σ y = some my → σ' y = some my) → σ' C = some (.list [.tup [.tup [sp x1 y1, sp x2 y2], .val (.bool false)]]) → σ' m = some (flNs mx g (.val (.ref C)) st he (.val (.ref Z))) → Q (.val .none) σ') : CallP w (D + 4) (.ref 499) [.inst x 528 m, .val (.bool false)] σ Q := by
  (refine CodeP.call ?_; (refine' enterW (n := 60) (vars0 := [("self", .inst x 528 m), ("is_closed", .val (.bool false))]) ?ho ?hc ?hb ?hs ?hh; (case ho => (show List.lookup _ (Mine.frame.heap_1 (World.params _)) = _; k_is)); (case hc => (show codeIn (Mine.frame.heap_1 (World.params _)) _ _ = true; k_is)); (case hb => exact bind2 fun _ _ => by kernel_rfl!); (case hs => exact rfl)))
  have nmS : m ≠ S := neT hS hm
  have nmC : m ≠ C := neT hC hm
  (repeat (first | wtm_at "vc0" | ((conv => whnf); wtm_at "vc0")))
  (conv => whnf)
  refine c_rspot (k := k) (by omega) b1 b2 ?_
  (repeat (first | wtm_at "vc0" | ((conv => whnf); wtm_at "vc0")))
  (conv => whnf)
  refine c_rspot (k := k) (by omega) b3 b4 ?_
  (repeat (first | wtm_at "vc0" | ((conv => whnf); wtm_at "vc0")))
  (conv => whnf)
  rename_i T fT
  have e0 : (σ.del S).set S (.list [sp (x1 * 256) (y1 * 256), sp (x2 * 256) (y2 * 256)]) = σ := Sto.del_set hS
  replace fT : ((σ.del S).set S (.list [sp (x1 * 256) (y1 * 256), sp (x2 * 256) (y2 * 256)])) T = none := fT
  rw [e0] at fT
  refine c_unlike2 n1 Sto.set_same fun U σ1 l1 f1 h1 => ?_
  have l2 : SLe (((σ.del S).set S (.list [sp (x1 * 256) (y1 * 256), sp (x2 * 256) (y2 * 256)])).set T (.list [sp x1 y1, sp x2 y2])) σ1 := l1
  rw [e0] at l2
  have l3 : SLe σ σ1 := SLe.trans (by repeat' (first | exact SLe.rfl | with_reducible assumption | refine SLe.upd ?_ ?_ | apply none_of_set)) l2
  have m1 := l3 _ _ hm
  have S1 := l3 _ _ hS
  have C1 := l3 _ _ hC
  (repeat (first | wtm_at "vc0" | ((conv => whnf); wtm_at "vc0")))
  (conv => whnf)
  rename_i Z fZ
  replace fZ : (σ1.set C (.list [.tup [.tup [sp x1 y1, sp x2 y2], .val (.bool false)]])) Z = none := fZ
  have gZ : σ1 Z = none := none_of_set fZ
  refine h Z _ (fun y my n1 n2 hy => ?_) ?_ Sto.set_same
  · have y1 := l3 _ _ hy
    exact (Sto.set_ne n1).trans ((Sto.set_ne (neS gZ y1)).trans ((Sto.set_ne n2).trans y1))
  · exact (Sto.set_ne (Ne.symm nmC)).trans ((Sto.set_ne (neS gZ C1)).trans Sto.set_same)
end
end
theorem bindK32 {w : World} {fd : FuncData} {n1 n2 n3 n4 n5 : Str} {d1 d2 d3 d4 d5 : Dat} {u4 u5 : Value} (h : ∀ (s : Shared) v1 v2 v3, (KK w).In s.heap → BindsTo s fd ⟨[v1, v2, v3], []⟩ [(n1, v1), (n2, v2), (n3, v3), (n4, u4), (n5, u5)]) (r4 : ∀ led, RV w led u4 d4) (r5 : ∀ led, RV w led u5 d5) : BindP w fd [d1, d2, d3] [(n1, d1), (n2, d2), (n3, d3), (n4, d4), (n5, d5)] := fun s led vs X r => by
  obtain ⟨v1, _, rfl, r1, r⟩ := r.inv
  obtain ⟨v2, _, rfl, r2, r⟩ := r.inv
  obtain ⟨v3, _, rfl, r3, r⟩ := r.inv
  obtain rfl := r.inv0
  exact ⟨_, h s v1 v2 v3 X, .cons r1 (.cons r2 (.cons r3 (.cons (r4 led) (.cons (r5 led) .nil))))⟩
theorem or_g {p q : Prop} (h : p ∨ q) : p ∨ q := h
local macro_rules | `(tactic| wtm_at "vside") => `(tactic| ((with_reducible refine or_g ?_); first | exact .inl rfl | exact .inr ⟨_, rfl, rfl⟩))
section
variable {w : World} {D : Nat} {σ : Sto} {Q : Dat → Sto → Prop}
theorem c_takeM {x mx m mm C S : Addr} {G X Y : Int} {st he : Dat} (hm : σ m = some (flNs (.inst mx 599 mm) (.int G) (.val (.ref C)) st he (.val (.ref S)))) (hS : σ S = some (.list [])) (hmm : σ mm = some idNs) (nmm : mm ≠ m) (hG : Bd 60 G) (hX : Bd 60 X) (hY : Bd 60 Y)
    (h : ∀ S' σ', SLx m σ σ' → σ S' = none → σ' S' = some (.list [sp (X * G) (Y * G)]) → σ' m = some (flNs (.inst mx 599 mm) (.int G) (.val (.ref C)) (.tup [sp X 1, sp Y 1]) (.tup [sp X 1, sp Y 1]) (.val (.ref S'))) → Q (.val .none) σ') :
    CallP w (D + 18) (.ref 518) [.inst x 528 m, .tup [.str "move", .tup [sp X 1, sp Y 1]]] σ Q := by
  (refine CodeP.call ?_; (refine' enterW (n := 60) (vars0 := [("self", .inst x 528 m), ("segment", .tup [.str "move", .tup [sp X 1, sp Y 1]])]) ?ho ?hc ?hb ?hs ?hh; (case ho => (show List.lookup _ (Mine.frame.heap_1 (World.params _)) = _; k_is)); (case hc => (show codeIn (Mine.frame.heap_1 (World.params _)) _ _ = true; k_is)); (case hb => exact bind2 fun _ _ => by kernel_rfl!); (case hs => exact rfl)))
  (repeat (first | wtm_at "vc0" | ((conv => whnf); wtm_at "vc0")))
  (conv => whnf)
  refine c_begin hm hS hmm nmm hG hX hY ?_
  exact h
theorem c_takeL {x mx m mm S : Addr} {G X Y : Int} {c st : Dat} {he : List Dat} {x1 y1 : Int} (hm : σ m = some (flNs (.inst mx 599 mm) (.int G) c st (.tup he) (.val (.ref S)))) (hS : σ S = some (.list [sp x1 y1])) (hmm : σ mm = some idNs) (nmm : mm ≠ m) (hG : Bd 60 G) (hX : Bd 60 X) (hY : Bd 60 Y)
    (h : ∀ σ', (∀ y my, y ≠ m → y ≠ S → σ y = some my → σ' y = some my) → σ' S = some (.list [sp x1 y1, sp (X * G) (Y * G)]) → σ' m = some (flNs (.inst mx 599 mm) (.int G) c st (.tup [sp X 1, sp Y 1]) (.val (.ref S))) → Q (.val .none) σ') :
    CallP w (D + 18) (.ref 518) [.inst x 528 m, .tup [.str "line", .tup [sp X 1, sp Y 1]]] σ Q := by
  (refine CodeP.call ?_; (refine' enterW (n := 60) (vars0 := [("self", .inst x 528 m), ("segment", .tup [.str "line", .tup [sp X 1, sp Y 1]])]) ?ho ?hc ?hb ?hs ?hh; (case ho => (show List.lookup _ (Mine.frame.heap_1 (World.params _)) = _; k_is)); (case hc => (show codeIn (Mine.frame.heap_1 (World.params _)) _ _ = true; k_is)); (case hb => exact bind2 fun _ _ => by kernel_rfl!); (case hs => exact rfl)))
  (repeat (first | wtm_at "vc0" | ((conv => whnf); wtm_at "vc0")))
  (conv => whnf)
  rename_i L fL
  refine c_go ((Sto.set_ne (neS fL hm)).trans hm) ((Sto.set_ne (neS fL hS)).trans hS) Sto.set_same (neS fL hS) ((Sto.set_ne (neS fL hmm)).trans hmm) nmm hG hX hY fun σ1 l1 S1 m1 => ?_
  refine h σ1 (fun y my n1 n2 hy => l1 y my n1 n2 ((Sto.set_ne (neS fL hy)).trans hy)) S1 m1
theorem c_flattened {k : Nat} (hk : k ≤ 50) {SG mx mm : Addr} {g x1 y1 x2 y2 : Int} (hS : σ SG = some (.list [.tup [.str "move", .tup [sp x1 1, sp y1 1]], .tup [.str "line", .tup [sp x2 1, sp y2 1]]])) (hmm : σ mm = some idNs) (hg : Bd k g) (b1 : Bd k x1) (b2 : Bd k y1) (b3 : Bd k x2) (b4 : Bd k y2) (n1 : ¬(x1 * g = x2 * g ∧ y1 * g = y2 * g))
    (h : ∀ C σ', SLe σ σ' → σ C = none → σ' C = some (.list [.tup [.tup [sp (x1 * g) (y1 * g), sp (x2 * g) (y2 * g)], .val (.bool false)]]) → Q (.val (.ref C)) σ') :
    CallP w (D + 20) (.ref 540) [.val (.ref SG), .inst mx 599 mm, .int g] σ Q := by
  refine CodeP.call ?_
  refine' enterW (n := 60) (vars0 := [("segments", .val (.ref SG)), ("matrix", .inst mx 599 mm), ("grain", .int g), ("bound", .int 1), ("most", .int 8)]) ?ho ?hc ?hb ?hs ?hh; (case ho => (show List.lookup _ (Mine.frame.heap_1 (World.params _)) = _); k_is); (case hc => (show codeIn (Mine.frame.heap_1 (World.params _)) _ _ = true); k_is); (case hs => exact rfl)
  case hb => exact bindK32 (u4 := .int 1 967) (u5 := .int 8 968) (fun s v1 v2 v3 X => binds_K X rfl (by (show List.lookup _ (Mine.frame.heap_1 (World.params _)) = _); k_is) rfl rfl (by kernel_rfl!)) (fun _ => .int _ _) (fun _ => .int _ _)
  (conv => whnf)
  refine k_Flattener (k := k) (by omega) hg fun x m C S σ1 l1 fm fC fS nCS hC hSe hm => ?_
  have G1 := l1 _ _ hS
  have M1 := l1 _ _ hmm
  have nmG : m ≠ SG := neT G1 hm
  have nmmG : mm ≠ SG := neT G1 M1
  have nCG : C ≠ SG := Ne.symm (neS fC hS)
  have nSG : S ≠ SG := Ne.symm (neS fS hS)
  have nmm : mm ≠ m := neS fm hmm
  have nmC : m ≠ C := neT hC hm
  have bG : Bd 60 (g * 256) := (Bd.mul hg (Bd.lit (k := 9) (by decide))).le (by omega)
  (repeat (first | wtm_at "vc0" | ((conv => whnf); wtm_at "vc0")))
  (conv => whnf)
  refine c_takeM (D := D) ((Sto.del_ne nmG).trans hm) ((Sto.del_ne nSG).trans hSe) ((Sto.del_ne nmmG).trans M1) nmm bG (b1.le (by omega)) (b2.le (by omega)) fun S2 σ2 l2 f2 hS2 hm2 => ?_
  have C2 := l2 _ _ (Ne.symm nmC) ((Sto.del_ne nCG).trans hC)
  have M2 := l2 _ _ nmm ((Sto.del_ne nmmG).trans M1)
  have nCS2 : C ≠ S2 := neS f2 ((Sto.del_ne nCG).trans hC)
  have nmS2 : m ≠ S2 := neT hS2 hm2
  have nmmS2 : mm ≠ S2 := neT hS2 M2
  (repeat (first | wtm_at "vc0" | ((conv => whnf); wtm_at "vc0")))
  (conv => whnf)
  refine c_takeL (D := D) hm2 hS2 M2 nmm bG (b3.le (by omega)) (b4.le (by omega)) fun σ3 l3 hS3 hm3 => ?_
  have C3 := l3 _ _ (Ne.symm nmC) nCS2 C2
  (repeat (first | wtm_at "vc0" | ((conv => whnf); wtm_at "vc0")))
  (conv => whnf)
  have e1 : ∀ x : Int, x * (g * 256) = x * g * 256 := fun x => by rw [Int.mul_assoc]
  rw [e1, e1, e1, e1] at hS3
  have bm : ∀ {x : Int}, Bd k x → Bd (k + k) (x * g) := fun h => Bd.mul h hg
  have nS2G : S2 ≠ SG := Ne.symm (neS f2 Sto.del_same)
  refine c_end2 (D := D + 14) (k := k + k) (by omega) n1 (bm b1) (bm b2) (bm b3) (bm b4) ((Sto.set_ne nmG).trans hm3) ((Sto.set_ne nS2G).trans hS3) ((Sto.set_ne nCG).trans C3) (Ne.symm nCS2) fun Z σ4 l4 hC4 hm4 => ?_
  (repeat (first | wtm_at "vc0" | ((conv => whnf); wtm_at "vc0")))
  (conv => whnf)
  refine h C σ4 (fun y my hy => ?_) fC hC4
  have nym : y ≠ m := neS fm hy
  have nyC : y ≠ C := neS fC hy
  by_cases eG : y = SG
  · subst eG
    rw [hS] at hy
    rw [← hy]
    exact l4 _ _ (Ne.symm nmG) (Ne.symm nCG) Sto.set_same
  · have y1 : (σ1.del SG) y = some my := (Sto.del_ne eG).trans (l1 _ _ hy)
    exact l4 _ _ nym nyC ((Sto.set_ne eG).trans (l3 _ _ nym (neS f2 y1) (l2 _ _ nym y1)))
end
section
set_option backward.match.sparseCases false
theorem som_i {α : Type} {o : Option α} {a : α} {K : α → Prop} (e : o = some a) (h : K a) : som o K := by
  rw [e]; exact h
noncomputable abbrev dgL : List Nat := (Str.ofString "0123456789").cps.toList
noncomputable abbrev ntNs (x : Str) (i : Int) : MO := .ns [("text", .str x), ("at", .int i)]
noncomputable def hit (l : List Nat) (i : Nat) (ys : List Nat) : Bool := match nth l i with | some cp => natIn cp ys | none => false
section
variable {w : World} {D : Nat} {σ : Sto} {Q : Dat → Sto → Prop}
theorem k_NumberText {x : Str} (h : ∀ a m, σ m = none → Q (.inst a 216 m) (σ.set m (ntNs x 0))) : CallP w (D + 3) (.ref 216) [.str x] σ Q := by
  refine call_class (fI := 192) (by (show makesIn (Mine.frame.heap_1 (World.params _)) _ = true); k_is) (by (show findIn (Mine.frame.heap_1 (World.params _)) _ _ = _); k_is) (by (show isFn (Mine.frame.heap_1 (World.params _)) _ = true); k_is) fun a m hm => ?_
  (refine' enterW (n := 60) (vars0 := [("self", .inst a 216 m), ("text", .str x)]) ?ho ?hc ?hb ?hs ?hh; (case ho => (show List.lookup _ (Mine.frame.heap_1 (World.params _)) = _; k_is)); (case hc => (show codeIn (Mine.frame.heap_1 (World.params _)) _ _ = true; k_is)); (case hb => exact bind2 fun _ _ => by kernel_rfl!); (case hs => exact rfl))
  (repeat (first | wtm_at "vc0" | ((conv => whnf); wtm_at "vc0")))
  have h' := h a m hm
  (conv => whnf)
  simp only [Sto.set_set]
  exact h'
theorem c_isOne {x y : Str} {a m : Addr} {i : Nat} (hx : x.length ≤ 1000000) (hm : σ m = some (ntNs x i)) (h : Q (.val (.bool (hit x.cps.toList i y.cps.toList))) σ) : CallP w (D + 2) (.ref 199) [.inst a 216 m, .str y] σ Q := by
  have hl : x.length = x.cps.toList.length := (Array.length_toList).symm
  (refine CodeP.call ?_; (refine' enterW (n := 60) (vars0 := [("self", .inst a 216 m), ("signs", .str y)]) ?ho ?hc ?hb ?hs ?hh; (case ho => (show List.lookup _ (Mine.frame.heap_1 (World.params _)) = _; k_is)); (case hc => (show codeIn (Mine.frame.heap_1 (World.params _)) _ _ = true; k_is)); (case hb => exact bind2 fun _ _ => by kernel_rfl!); (case hs => exact rfl)))
  (repeat (first | wtm_at "vc0" | ((conv => whnf); wtm_at "vc0")))
  (conv => whnf)
  refine brn_ (fun h1 => ?_) (fun h1 => ?_)
  · have h2 := of_decide_eq_true h1
    have hi : i < x.cps.toList.length := by omega
    have hc : nth x.cps.toList i = some (x.cps.toList[i]) := nth_is.trans (List.getElem?_eq_getElem hi)
    unfold hit at h
    rw [hc] at h
    (repeat (first | wtm_at "vc0" | ((conv => whnf); wtm_at "vc0")))
    (conv => whnf)
    exact som_i (o := signAt x i) hc h
  · have h2 := of_decide_eq_false h1
    have hc : nth x.cps.toList i = none := nth_is.trans (List.getElem?_eq_none (by omega))
    have e : hit x.cps.toList i y.cps.toList = decide ((i : Int) < x.length) := by unfold hit; rw [hc, h1]
    rw [e] at h
    exact h
/-- a sign skipped, or none -/
theorem c_skip {x y : Str} {a m : Addr} {i : Nat} (hx : x.length ≤ 1000000) (hm : σ m = some (ntNs x i)) (h0 : hit x.cps.toList i y.cps.toList = false → Q (.str "") σ) (h1 : ∀ cp, nth x.cps.toList i = some cp → hit x.cps.toList i y.cps.toList = true → Q (.str ⟨#[cp]⟩) (σ.set m (ntNs x ((i + 1 : Nat) : Int)))) : CallP w (D + 4) (.ref 206) [.inst a 216 m, .str y] σ Q := by
  (refine CodeP.call ?_; (refine' enterW (n := 60) (vars0 := [("self", .inst a 216 m), ("signs", .str y)]) ?ho ?hc ?hb ?hs ?hh; (case ho => (show List.lookup _ (Mine.frame.heap_1 (World.params _)) = _; k_is)); (case hc => (show codeIn (Mine.frame.heap_1 (World.params _)) _ _ = true; k_is)); (case hb => exact bind2 fun _ _ => by kernel_rfl!); (case hs => exact rfl)))
  (repeat (first | wtm_at "vc0" | ((conv => whnf); wtm_at "vc0")))
  (conv => whnf)
  refine c_isOne hx hm ?_
  (repeat (first | wtm_at "vc0" | ((conv => whnf); wtm_at "vc0")))
  (conv => whnf)
  refine brn_ (fun e => ?_) (fun e => ?_)
  · (repeat (first | wtm_at "vc0" | ((conv => whnf); wtm_at "vc0")))
    exact h0 (not_true e)
  · have e : hit x.cps.toList i y.cps.toList = true := by
      cases q : hit x.cps.toList i y.cps.toList with
      | true => rfl
      | false => rw [q] at e; cases e
    have hc : ∃ cp, nth x.cps.toList i = some cp := by
      unfold hit at e
      cases q : nth x.cps.toList i with
      | some cp => exact ⟨cp, rfl⟩
      | none => rw [q] at e; cases e
    obtain ⟨cp, hc⟩ := hc
    have h1 := h1 cp hc e
    (repeat (first | wtm_at "vc0" | ((conv => whnf); wtm_at "vc0")))
    (conv => whnf)
    exact som_i (o := signAt x ((i : Int) + 1 - 1)) (by rw [Int.add_sub_cancel]; exact hc) h1
noncomputable def skS (l : List Nat) (i : Nat) (ys : List Nat) : Str := match hit l i ys with | true => ⟨#[(nth l i).getD 0]⟩ | false => ""
noncomputable def skI (l : List Nat) (i : Nat) (ys : List Nat) : Nat := match hit l i ys with | true => i + 1 | false => i
theorem c_skipU {x y : Str} {a m : Addr} {i : Nat} (hx : x.length ≤ 1000000) (hm : σ m = some (ntNs x i)) (h : ∀ σ', σ' m = some (ntNs x (skI x.cps.toList i y.cps.toList)) → (∀ z, z ≠ m → σ' z = σ z) → Q (.str (skS x.cps.toList i y.cps.toList)) σ') : CallP w (D + 4) (.ref 206) [.inst a 216 m, .str y] σ Q := by
  refine c_skip hx hm (fun e => ?_) fun cp hc e => ?_
  · unfold skI skS at h
    rw [e] at h
    exact h σ hm fun _ _ => rfl
  · unfold skI skS at h
    rw [e, hc] at h
    exact h _ Sto.set_same fun z hz => Sto.set_ne hz
/-- digits as far as they go -/
theorem c_digits {x : Str} {a m : Addr} {i j : Nat} (hx : x.length ≤ 1000000) (hm : σ m = some (ntNs x i)) (hij : i ≤ j) (hd : ∀ p, i ≤ p → p < j → hit x.cps.toList p dgL = true) (he : hit x.cps.toList j dgL = false)
    (h : ∀ σ', σ' m = some (ntNs x j) → (∀ y, y ≠ m → σ' y = σ y) → Q (.str (Txt.slice x (some i) (some j))) σ') : CallP w (D + 4) (.ref 213) [.inst a 216 m] σ Q := by
  (refine CodeP.call ?_; (refine' enterW (n := 60) (vars0 := [("self", .inst a 216 m)]) ?ho ?hc ?hb ?hs ?hh; (case ho => (show List.lookup _ (Mine.frame.heap_1 (World.params _)) = _; k_is)); (case hc => (show codeIn (Mine.frame.heap_1 (World.params _)) _ _ = true; k_is)); (case hb => exact bind1 fun _ => by kernel_rfl!); (case hs => exact rfl)))
  (repeat (first | wtm_at "vc0" | ((conv => whnf); wtm_at "vc0")))
  (conv => whnf)
  refine whl (fun n v σ' => ∃ p : Nat, v = ([("begin", .int i), ("self", .inst a 216 m)] : Vars) ∧ n = j - p ∧ i ≤ p ∧ p ≤ j ∧ σ' m = some (ntNs x p) ∧ ∀ y, y ≠ m → σ' y = σ y) (j - i) [("begin", .int i), ("self", .inst a 216 m)] ?_ ⟨i, rfl, rfl, Nat.le_refl _, hij, hm, fun _ _ => rfl⟩ ?_
  · exact ⟨rfl, rfl, trivial⟩
  rintro n _ σ' ⟨p, rfl, rfl, hp1, hp2, hm', hs⟩
  (repeat (first | wtm_at "vc0" | ((conv => whnf); wtm_at "vc0")))
  (conv => whnf)
  refine c_isOne hx hm' ?_
  (repeat (first | wtm_at "vc0" | ((conv => whnf); wtm_at "vc0")))
  (conv => whnf)
  by_cases hlt : p < j
  · refine brn_eq (hd p hp1 hlt) (brn_t ?_)
    (repeat (first | wtm_at "vc0" | ((conv => whnf); wtm_at "vc0")))
    exact ⟨j - (p + 1), [("begin", .int i), ("self", .inst a 216 m)], by omega, ⟨rfl, rfl, trivial⟩, p + 1, rfl, rfl, by omega, by omega, Sto.set_same, fun y hy => (Sto.set_ne hy).trans (hs y hy)⟩
  · have e : p = j := by omega
    subst e
    refine brn_eq he (brn_f ?_)
    (repeat (first | wtm_at "vc0" | ((conv => whnf); wtm_at "vc0")))
    exact h σ' hm' hs
end
end
section
set_option backward.match.sparseCases false
theorem find_dg {c : Nat} (h0 : 48 ≤ c) (h1 : c ≤ 57) : Txt.find "0123456789" ⟨#[c]⟩ = (c : Int) - 48 := by
  have h := List.all_eq_true.mp (show (List.range 10).all (fun d => decide (Txt.find "0123456789" ⟨#[d + 48]⟩ = (d : Int))) = true by kernel_rfl!) (c - 48) (List.mem_range.mpr (by omega))
  have e := of_decide_eq_true h
  rw [Nat.sub_add_cancel h0] at e
  omega
noncomputable def allDg (l : List Nat) : Prop := ∀ c ∈ l, 48 ≤ c ∧ c ≤ 57
noncomputable def wholeF (a : Int) : List Nat → Int
  | [] => a
  | c :: r => wholeF (a * 10 + ((c : Int) - 48)) r
section
variable {w : World} {D : Nat} {σ : Sto} {Q : Dat → Sto → Prop}
theorem c_whole {x : Str} (hx : x.cps.toList.length ≤ 20) (hd : allDg x.cps.toList) (h : Bd 80 (wholeF 0 x.cps.toList) → Q (.int (wholeF 0 x.cps.toList)) σ) : CallP w (D + 2) (.ref 227) [.str x] σ Q := by
  (refine CodeP.call ?_; (refine' enterW (n := 60) (vars0 := [("digits", .str x)]) ?ho ?hc ?hb ?hs ?hh; (case ho => (show List.lookup _ (Mine.frame.heap_1 (World.params _)) = _; k_is)); (case hc => (show codeIn (Mine.frame.heap_1 (World.params _)) _ _ = true; k_is)); (case hb => exact bind1 fun _ => by kernel_rfl!); (case hs => exact rfl)))
  (conv => whnf)
  refine ForX.inv (fun rem v s' => ∃ (r : List Nat) (acc : Int) (j : Nat), rem = sgDs r ∧ v = ([("number", .int acc), ("digits", .str x)] : Vars) ∧ s' = σ ∧ allDg r ∧ wholeF acc r = wholeF 0 x.cps.toList ∧ 0 ≤ acc ∧ Bd (4 * j) acc ∧ j + r.length ≤ 20) [("number", .int 0), ("digits", .str x)] ?_ ⟨_, 0, 0, rfl, rfl, rfl, hd, rfl, by decide, Bd.lit rfl, by omega⟩ ?_ ?_
  · exact ⟨rfl, rfl, trivial⟩
  · rintro _ _ ⟨r, acc, j, e, rfl, rfl, h1, h2, h3, h4, h5⟩
    cases r with
    | cons => cases e
    | nil =>
      rw [← h2] at h
      exact h (h4.le (by omega))
  · rintro d ds _ _ ⟨r, acc, j, e, rfl, rfl, h1, h2, h3, h4, h5⟩
    cases r with
    | nil => cases e
    | cons c r =>
      cases e
      obtain ⟨hc0, hc1⟩ := h1 c (.head _)
      have hj : j + 1 + r.length ≤ 20 := by have := h5; rw [List.length_cons] at this; omega
      (conv => whnf)
      refine And.intro (Bd.mulOk h4 (Bd.lit (k := 4) (by decide)) (by omega)) ?_
      (conv => whnf)
      rw [find_dg hc0 hc1]
      refine And.intro (by omega) ?_
      refine ⟨[("number", .int (acc * 10 + ((c : Int) - 48))), ("digits", .str x)], ⟨rfl, rfl, trivial⟩, r, _, j + 1, rfl, rfl, rfl, fun c hc => h1 c (.tail _ hc), h2, by omega, ?_, hj⟩
      unfold Bd at h4 ⊢
      rw [Nat.mul_add, Nat.pow_add]
      omega
end
end
section
set_option backward.match.sparseCases false
noncomputable abbrev pmL : List Nat := (Str.ofString "+-").cps.toList
noncomputable abbrev dotL : List Nat := (Str.ofString ".").cps.toList
noncomputable abbrev eEL : List Nat := (Str.ofString "eE").cps.toList
/-- digits from a place to a place, and no further -/
noncomputable def rdB (l : List Nat) (i j : Nat) : Bool := Nat.ble i j && (List.range (j - i)).all (fun d => hit l (i + d) dgL) && !hit l j dgL
theorem rdB_ok {l : List Nat} {i j : Nat} (h : rdB l i j = true) : i ≤ j ∧ (∀ p, i ≤ p → p < j → hit l p dgL = true) ∧ hit l j dgL = false := by
  unfold rdB at h
  simp only [Bool.and_eq_true, Bool.not_eq_true'] at h
  refine ⟨Nat.le_of_ble_eq_true h.1.1, fun p h1 h2 => ?_, h.2⟩
  have := List.all_eq_true.mp h.1.2 (p - i) (List.mem_range.mpr (by omega))
  rw [Nat.add_sub_cancel' h1] at this
  exact this
noncomputable def okAll (l : List Nat) : Bool := Nat.ble l.length 20 && l.all fun c => Nat.ble 48 c && Nat.ble c 57
theorem okAll_ok {l : List Nat} (h : okAll l = true) : l.length ≤ 20 ∧ allDg l := by
  unfold okAll at h
  simp only [Bool.and_eq_true] at h
  refine ⟨Nat.le_of_ble_eq_true h.1, fun c hc => ?_⟩
  have := List.all_eq_true.mp h.2 c hc
  simp only [Bool.and_eq_true] at this
  exact ⟨Nat.le_of_ble_eq_true this.1, Nat.le_of_ble_eq_true this.2⟩
noncomputable def sgnI (sg : Bool) (n : Int) : Int := match sg with | true => -n | false => n
/-- a text read: its sign, its places, its digits; the number told in hundredths -/
structure NumC (x : Str) (sg : Bool) (i j : Nat) (ws : Str) : Prop where
  hx : x.length ≤ 1000
  h1 : skI x.cps.toList 0 pmL = i
  h2 : sEq (skS x.cps.toList 0 pmL) "-" = sg
  h3 : i ≤ j ∧ (∀ p, i ≤ p → p < j → hit x.cps.toList p dgL = true) ∧ hit x.cps.toList j dgL = false
  h4 : Txt.slice x (some i) (some j) = ws
  h5 : ws.length ≤ 20
noncomputable def numC (x : Str) (sg : Bool) (i j : Nat) (ws : Str) : Bool := Nat.ble x.length 1000 && Nat.beq (skI x.cps.toList 0 pmL) i && (match sg with | true => sEq (skS x.cps.toList 0 pmL) "-" | false => !sEq (skS x.cps.toList 0 pmL) "-") && rdB x.cps.toList i j && sEq (Txt.slice x (some i) (some j)) ws && Nat.ble ws.length 20
theorem numC_ok {x : Str} {sg : Bool} {i j : Nat} {ws : Str} (h : numC x sg i j ws = true) : NumC x sg i j ws := by
  unfold numC at h
  simp only [Bool.and_eq_true] at h
  obtain ⟨⟨⟨⟨⟨a, b⟩, c⟩, d⟩, e⟩, f⟩ := h
  refine ⟨Nat.le_of_ble_eq_true a, Nat.eq_of_beq_eq_true b, ?_, rdB_ok d, sEq_iff.mp e, Nat.le_of_ble_eq_true f⟩
  cases sg with
  | true => exact c
  | false => exact not_true c
noncomputable def numW (x : Str) (n : Int) (sg : Bool) (i j : Nat) (ws : Str) : Bool := numC x sg i j ws && sEq (skS x.cps.toList j dotL) "" && !hit x.cps.toList j dotL && !hit x.cps.toList j eEL && Nat.beq j x.length && !sEq ws "" && okAll ws.cps.toList && decide (n = 100 * sgnI sg (wholeF 0 ws.cps.toList))
noncomputable def numP (x : Str) (n : Int) (sg : Bool) (i j e : Nat) (ws ps : Str) : Bool := numC x sg i j ws && !sEq (skS x.cps.toList j dotL) "" && hit x.cps.toList j dotL && rdB x.cps.toList (j + 1) e && !hit x.cps.toList e eEL && Nat.beq e x.length && sEq (Txt.slice x (some ((j + 1 : Nat) : Int)) (some e)) ps && Nat.beq ps.length 2 && !sEq (ws ++ ps) "" && okAll (ws ++ ps).cps.toList && decide (n = sgnI sg (wholeF 0 (ws ++ ps).cps.toList))
noncomputable def NumT (x : Str) (n : Int) : Prop := (∃ sg i j ws, numW x n sg i j ws = true) ∨ ∃ sg i j e ws ps, numP x n sg i j e ws ps = true
section
variable {w : World} {D : Nat} {σ : Sto} {Q : Dat → Sto → Prop}
theorem c_readExp {x : Str} {a m : Addr} {i : Nat} (hx : x.length ≤ 1000000) (hm : σ m = some (ntNs x i)) (he : hit x.cps.toList i eEL = false) (h : Q (.int 0) σ) : CallP w (D + 6) (.ref 234) [.inst a 216 m] σ Q := by
  (refine CodeP.call ?_; (refine' enterW (n := 60) (vars0 := [("reader", .inst a 216 m)]) ?ho ?hc ?hb ?hs ?hh; (case ho => (show List.lookup _ (Mine.frame.heap_1 (World.params _)) = _; k_is)); (case hc => (show codeIn (Mine.frame.heap_1 (World.params _)) _ _ = true; k_is)); (case hb => exact bind1 fun _ => by kernel_rfl!); (case hs => exact rfl)))
  (repeat (first | wtm_at "vc0" | ((conv => whnf); wtm_at "vc0")))
  (conv => whnf)
  refine c_skip hx hm (fun _ => ?_) fun cp _ e => by rw [he] at e; cases e
  (repeat (first | wtm_at "vc0" | ((conv => whnf); wtm_at "vc0")))
  exact h
theorem c_readW {x : Str} {n : Int} {sg : Bool} {i j : Nat} {ws : Str} (hn : numW x n sg i j ws = true) (h : ∀ a b σ', F 100 (val n 100) a b → SLe σ σ' → Q (sp a b) σ') : CallP w (D + 10) (.ref 241) [.str x] σ Q := by
  unfold numW at hn
  simp only [Bool.and_eq_true, Bool.not_eq_true', decide_eq_true_eq] at hn
  obtain ⟨⟨⟨⟨⟨⟨⟨hc, e1⟩, e2⟩, e3⟩, e4⟩, e5⟩, e6⟩, e7⟩ := hn
  obtain ⟨hx, h1, h2, h3, h4, h5⟩ := numC_ok hc
  (refine CodeP.call ?_; (refine' enterW (n := 60) (vars0 := [("text", .str x)]) ?ho ?hc ?hb ?hs ?hh; (case ho => (show List.lookup _ (Mine.frame.heap_1 (World.params _)) = _; k_is)); (case hc => (show codeIn (Mine.frame.heap_1 (World.params _)) _ _ = true; k_is)); (case hb => exact bind1 fun _ => by kernel_rfl!); (case hs => exact rfl)))
  (conv => whnf)
  refine k_NumberText fun a m fm => ?_
  (repeat (first | wtm_at "vc0" | ((conv => whnf); wtm_at "vc0")))
  (conv => whnf)
  refine c_skipU (i := 0) (by omega) Sto.set_same fun σ1 m1 s1 => ?_
  (repeat (first | wtm_at "vc0" | ((conv => whnf); wtm_at "vc0")))
  (conv => whnf)
  rw [show (Str.ofString "+-").cps.toList = pmL from rfl, h1] at m1
  refine c_digits (by omega) m1 h3.1 h3.2.1 h3.2.2 fun σ2 m2 s2 => ?_
  rw [h4]
  (repeat (first | wtm_at "vc0" | ((conv => whnf); wtm_at "vc0")))
  (conv => whnf)
  refine c_skipU (by omega) m2 fun σ3 m3 s3 => ?_
  have e9 : skI x.cps.toList j (Str.ofString ".").cps.toList = j := by unfold skI; rw [show hit x.cps.toList j (Str.ofString ".").cps.toList = false from e2]
  rw [e9] at m3
  (repeat (first | wtm_at "vc0" | ((conv => whnf); wtm_at "vc0")))
  (conv => whnf)
  refine brn_eq (show ngB true (sEq (skS x.cps.toList j (Str.ofString ".").cps.toList) "") = false by rw [show sEq (skS x.cps.toList j (Str.ofString ".").cps.toList) "" = true from e1]; rfl) (brn_f ?_)
  (conv => whnf)
  have ea : ws ++ Str.ofString "" = ws := Str.append_empty ws
  refine And.intro (show ws.length + 0 ≤ 1000000 by omega) ?_
  rw [ea]
  (conv => whnf)
  refine brn_eq (show ngB false (sEq ws "") = false from e5) (brn_f ?_)
  (conv => whnf)
  refine c_readExp (by omega) m3 e3 ?_
  (conv => whnf)
  refine And.intro (show (0 : Nat) ≤ 1000000 from Nat.zero_le _) ?_
  (conv => whnf)
  refine Exists.intro _ (And.intro m3 ?_)
  (conv => whnf)
  refine And.intro (show x.length ≤ 1000000 by omega) ?_
  (conv => whnf)
  have ej := Nat.eq_of_beq_eq_true e4
  refine brn_eq (show decide ((j : Int) < (x.length : Int)) = false from decide_eq_false (by omega)) (brn_f ?_)
  (conv => whnf)
  refine And.intro (show ws.length + 0 ≤ 1000000 by omega) ?_
  rw [ea]
  (conv => whnf)
  refine c_whole (okAll_ok e6).1 (okAll_ok e6).2 fun bw => ?_
  have l3 : SLe σ σ3 := fun y my hy => by
    have ny : y ≠ m := neS fm hy
    rw [s3 y ny, s2 y ny, s1 y ny, Sto.set_ne ny]; exact hy
  have fin : ∀ z : Int, Bd 81 z → n = 100 * z → Q (sp (z * 10 ^ ((0 : Int) - ((Str.ofString "").length : Nat)).toNat) 1) σ3 := fun z bz e => by
    have e1 : z * 10 ^ ((0 : Int) - ((Str.ofString "").length : Nat)).toNat = z := Int.mul_one z
    rw [e1]
    refine h z 1 σ3 ⟨by decide, bz.le (by decide), Bd.lit (by decide), ?_⟩ l3
    rw [e, val_eq_iff (by decide) (by decide), Int.mul_one, Int.mul_comm]
  have p10 : ∀ {z : Int}, Bd 81 z → IntMulOk z ((10 : Int) ^ ((0 : Int) - ((Str.ofString "").length : Nat)).toNat) := fun bz => Bd.mulOk bz (show Bd 8 ((10 : Int) ^ ((0 : Int) - ((Str.ofString "").length : Nat)).toNat) from Bd.lit rfl) (by decide)
  have pw : (0 : Int) ≤ (0 : Int) - ((Str.ofString "").length : Nat) ∧ (Builtin.Int.intBits 10 : Int) * ((0 : Int) - ((Str.ofString "").length : Nat)) ≤ 2 ^ 27 := ⟨Int.le_refl 0, by decide⟩
  (conv => whnf)
  refine brn_ (fun q => ?_) (fun q => ?_)
  · have es : sg = true := h2.symm.trans q
    subst es
    (conv => whnf)
    refine brn_eq (show decide (((0 : Int) - ((Str.ofString "").length : Nat)) < 0) = false from rfl) (brn_f ?_)
    (conv => whnf)
    refine And.intro pw ?_
    (conv => whnf)
    refine And.intro (p10 (bw.neg.le (by decide))) ?_
    exact fin _ (bw.neg.le (by decide)) e7
  · have es : sg = false := h2.symm.trans q
    subst es
    (conv => whnf)
    refine brn_eq (show decide (((0 : Int) - ((Str.ofString "").length : Nat)) < 0) = false from rfl) (brn_f ?_)
    (conv => whnf)
    refine And.intro pw ?_
    (conv => whnf)
    refine And.intro (p10 (bw.le (by decide))) ?_
    exact fin _ (bw.le (by decide)) e7
theorem c_readP {x : Str} {n : Int} {sg : Bool} {i j e : Nat} {ws ps : Str} (hn : numP x n sg i j e ws ps = true) (h : ∀ a b σ', F 100 (val n 100) a b → SLe σ σ' → Q (sp a b) σ') : CallP w (D + 10) (.ref 241) [.str x] σ Q := by
  unfold numP at hn
  simp only [Bool.and_eq_true, Bool.not_eq_true', decide_eq_true_eq] at hn
  obtain ⟨⟨⟨⟨⟨⟨⟨⟨⟨⟨hc, e1⟩, e2⟩, e3⟩, e4⟩, e5⟩, e6⟩, e7⟩, e8⟩, e9⟩, e10⟩ := hn
  obtain ⟨hx, h1, h2, h3, h4, h5⟩ := numC_ok hc
  have r3 := rdB_ok e3
  have lp := Nat.eq_of_beq_eq_true e7
  (refine CodeP.call ?_; (refine' enterW (n := 60) (vars0 := [("text", .str x)]) ?ho ?hc ?hb ?hs ?hh; (case ho => (show List.lookup _ (Mine.frame.heap_1 (World.params _)) = _; k_is)); (case hc => (show codeIn (Mine.frame.heap_1 (World.params _)) _ _ = true; k_is)); (case hb => exact bind1 fun _ => by kernel_rfl!); (case hs => exact rfl)))
  (conv => whnf)
  refine k_NumberText fun a m fm => ?_
  (repeat (first | wtm_at "vc0" | ((conv => whnf); wtm_at "vc0")))
  (conv => whnf)
  refine c_skipU (i := 0) (by omega) Sto.set_same fun σ1 m1 s1 => ?_
  (repeat (first | wtm_at "vc0" | ((conv => whnf); wtm_at "vc0")))
  (conv => whnf)
  rw [show (Str.ofString "+-").cps.toList = pmL from rfl, h1] at m1
  refine c_digits (by omega) m1 h3.1 h3.2.1 h3.2.2 fun σ2 m2 s2 => ?_
  rw [h4]
  (repeat (first | wtm_at "vc0" | ((conv => whnf); wtm_at "vc0")))
  (conv => whnf)
  refine c_skipU (by omega) m2 fun σ3 m3 s3 => ?_
  have e11 : skI x.cps.toList j (Str.ofString ".").cps.toList = j + 1 := by unfold skI; rw [show hit x.cps.toList j (Str.ofString ".").cps.toList = true from e2]
  rw [e11] at m3
  (repeat (first | wtm_at "vc0" | ((conv => whnf); wtm_at "vc0")))
  (conv => whnf)
  refine brn_eq (show ngB true (sEq (skS x.cps.toList j (Str.ofString ".").cps.toList) "") = true by rw [show sEq (skS x.cps.toList j (Str.ofString ".").cps.toList) "" = false from e1]; rfl) (brn_t ?_)
  (repeat (first | wtm_at "vc0" | ((conv => whnf); wtm_at "vc0")))
  (conv => whnf)
  refine c_digits (by omega) m3 r3.1 r3.2.1 r3.2.2 fun σ4 m4 s4 => ?_
  rw [sEq_iff.mp e6]
  (conv => whnf)
  refine And.intro (by omega) ?_
  (conv => whnf)
  refine brn_eq (show ngB false (sEq (ws ++ ps) "") = false from e8) (brn_f ?_)
  (conv => whnf)
  refine c_readExp (by omega) m4 e4 ?_
  (conv => whnf)
  refine And.intro (by omega) ?_
  (conv => whnf)
  refine Exists.intro _ (And.intro m4 ?_)
  (conv => whnf)
  refine And.intro (show x.length ≤ 1000000 by omega) ?_
  (conv => whnf)
  have ej := Nat.eq_of_beq_eq_true e5
  refine brn_eq (show decide ((e : Int) < (x.length : Int)) = false from decide_eq_false (by omega)) (brn_f ?_)
  (conv => whnf)
  refine And.intro (by omega) ?_
  (conv => whnf)
  refine c_whole (okAll_ok e9).1 (okAll_ok e9).2 fun bw => ?_
  have l4 : SLe σ σ4 := fun y my hy => by
    have ny : y ≠ m := neS fm hy
    rw [s4 y ny, s3 y ny, s2 y ny, s1 y ny, Sto.set_ne ny]; exact hy
  rw [lp]
  have pw : (0 : Int) ≤ -((0 : Int) - (2 : Nat)) ∧ (Builtin.Int.intBits 10 : Int) * -((0 : Int) - (2 : Nat)) ≤ 2 ^ 27 := ⟨by decide, by decide⟩
  have fin : ∀ z : Int, Bd 81 z → n = z → CallP w (D + 8) (.ref 101) [.int z, .int (10 ^ (-((0 : Int) - (2 : Nat))).toNat)] σ4 Q := fun z bz ez =>
    c_fraction (k := 81) (by decide) (show (0 : Int) < 100 by decide) bz (show Bd 81 100 from Bd.lit rfl) fun a b z1 z2 z3 z4 => h a b σ4 ⟨z1, z2.le (by decide), z3.le (by decide), by rw [ez]; exact (val_eq_iff z1 (show (0 : Int) < 100 by decide)).mpr z4⟩ l4
  (conv => whnf)
  refine brn_ (fun q => ?_) (fun q => ?_)
  · have es : sg = true := h2.symm.trans q
    subst es
    (conv => whnf)
    refine brn_eq (show decide (((0 : Int) - (2 : Nat)) < 0) = true from rfl) (brn_t ?_)
    (conv => whnf)
    refine And.intro pw ?_
    exact fin _ (bw.neg.le (by decide)) e10
  · have es : sg = false := h2.symm.trans q
    subst es
    (conv => whnf)
    refine brn_eq (show decide (((0 : Int) - (2 : Nat)) < 0) = true from rfl) (brn_t ?_)
    (conv => whnf)
    refine And.intro pw ?_
    exact fin _ (bw.le (by decide)) e10
theorem c_read {x : Str} {n : Int} (hn : NumT x n) (h : ∀ a b σ', F 100 (val n 100) a b → SLe σ σ' → Q (sp a b) σ') : CallP w (D + 10) (.ref 241) [.str x] σ Q := by
  rcases hn with ⟨sg, i, j, ws, hn⟩ | ⟨sg, i, j, e, ws, ps, hn⟩
  · exact c_readW hn h
  · exact c_readP hn h
end
end
section
set_option backward.match.sparseCases false
/-- a text without a unit, or with '%' -/
structure UnB (x : Str) (pct : Bool) : Prop where
  hx : x.length ≤ 1000
  st : Txt.strip x = x
  e0 : Txt.endswith x "px" = false
  e1 : Txt.endswith x "pt" = false
  e2 : Txt.endswith x "pc" = false
  e3 : Txt.endswith x "mm" = false
  e4 : Txt.endswith x "cm" = false
  e5 : Txt.endswith x "in" = false
  e6 : Txt.endswith x "em" = false
  e7 : Txt.endswith x "%" = pct
noncomputable def unB (x : Str) (pct : Bool) : Bool := Nat.ble x.length 1000 && sEq (Txt.strip x) x && !Txt.endswith x "px" && !Txt.endswith x "pt" && !Txt.endswith x "pc" && !Txt.endswith x "mm" && !Txt.endswith x "cm" && !Txt.endswith x "in" && !Txt.endswith x "em" && (Txt.endswith x "%" == pct)
theorem unB_ok {x : Str} {pct : Bool} (h : unB x pct = true) : UnB x pct := by
  unfold unB at h
  simp only [Bool.and_eq_true, Bool.not_eq_true', beq_iff_eq] at h
  obtain ⟨⟨⟨⟨⟨⟨⟨⟨⟨a, b⟩, e0⟩, e1⟩, e2⟩, e3⟩, e4⟩, e5⟩, e6⟩, e7⟩ := h
  exact ⟨Nat.le_of_ble_eq_true a, sEq_iff.mp b, e0, e1, e2, e3, e4, e5, e6, e7⟩
section
variable {w : World} {D : Nat} {σ : Sto} {Q : Dat → Sto → Prop}
theorem c_unit {x : Str} {pct : Bool} (hu : UnB x pct) (h0 : pct = false → Q (.tup [.str x, .str ""]) σ) (h1 : pct = true → Q (.tup [.str (Txt.strip (Txt.slice x none (some (-1)))), .str "%"]) σ) (hl : (Txt.slice x none (some (-1))).length ≤ 1000000) : CallP w (D + 2) (.ref 1034) [.str x] σ Q := by
  obtain ⟨hx, st, e0, e1, e2, e3, e4, e5, e6, e7⟩ := hu
  (refine CodeP.call ?_; (refine' enterW (n := 60) (vars0 := [("text", .str x)]) ?ho ?hc ?hb ?hs ?hh; (case ho => (show List.lookup _ (Mine.frame.heap_1 (World.params _)) = _; k_is)); (case hc => (show codeIn (Mine.frame.heap_1 (World.params _)) _ _ = true; k_is)); (case hb => exact bind1 fun _ => by kernel_rfl!); (case hs => exact rfl)))
  (conv => whnf)
  refine And.intro (by omega) ?_
  rw [st]
  (repeat (first | wtm_at "vc0" | ((conv => whnf); wtm_at "vc0")))
  refine brn_eq e0 (brn_f ?_)
  (conv => whnf)
  refine brn_eq e1 (brn_f ?_)
  (conv => whnf)
  refine brn_eq e2 (brn_f ?_)
  (conv => whnf)
  refine brn_eq e3 (brn_f ?_)
  (conv => whnf)
  refine brn_eq e4 (brn_f ?_)
  (conv => whnf)
  refine brn_eq e5 (brn_f ?_)
  (conv => whnf)
  refine brn_eq e6 (brn_f ?_)
  (conv => whnf)
  refine brn_ (fun q => ?_) (fun q => ?_)
  · (conv => whnf)
    refine And.intro (show (1 : Nat) ≤ 1000000 by decide) ?_
    (repeat (first | wtm_at "vc0" | ((conv => whnf); wtm_at "vc0")))
    (conv => whnf)
    refine And.intro hl ?_
    exact h1 (e7.symm.trans q)
  · exact h0 (e7.symm.trans q)
end
end
section
set_option backward.match.sparseCases false
/-- a length told: h hundredths, W the whole -/
noncomputable def LenT (W : Int) (x : Str) (h : Int) : Prop := (UnB x false ∧ NumT x h) ∨ ∃ p, UnB x true ∧ NumT (Txt.strip (Txt.slice x none (some (-1)))) (100 * p) ∧ h = p * W
theorem LenT.plain {W : Int} {x : Str} {h : Int} (u : UnB x false) (n : NumT x h) : LenT W x h := .inl ⟨u, n⟩
theorem pct_val {p W : Int} : val (100 * p) 100 * (W : Rat) * val 1 100 = val (p * W) 100 := by
  unfold val
  rw [Rat.intCast_mul, Rat.intCast_mul]
  have e : ((100 : Int) : Rat) = 100 := rfl
  rw [e]; grind
theorem bindK21 {w : World} {fd : FuncData} {n1 n2 n3 : Str} {d1 d2 d3 : Dat} {u3 : Value} (h : ∀ (s : Shared) v1 v2, (KK w).In s.heap → BindsTo s fd ⟨[v1, v2], []⟩ [(n1, v1), (n2, v2), (n3, u3)]) (r3 : ∀ led, RV w led u3 d3) : BindP w fd [d1, d2] [(n1, d1), (n2, d2), (n3, d3)] := fun s led vs X r => by
  obtain ⟨v1, _, rfl, r1, r⟩ := r.inv
  obtain ⟨v2, _, rfl, r2, r⟩ := r.inv
  obtain rfl := r.inv0
  exact ⟨_, h s v1 v2 X, .cons r1 (.cons r2 (.cons (r3 led) .nil))⟩
section
variable {w : World} {D : Nat} {σ : Sto} {Q : Dat → Sto → Prop}
theorem c_length {x : Str} {W h : Int} {fs : Dat} (hW : Bd 60 W) (ht : LenT W x h) (hl : (Txt.slice x none (some (-1))).length ≤ 1000000) (k : ∀ a b σ', F 200 (val h 100) a b → SLe σ σ' → Q (sp a b) σ') : CallP w (D + 14) (.ref 1043) [.str x, sp W 1, fs] σ Q := by
  (refine CodeP.call ?_; (refine' enterW (n := 60) (vars0 := [("text", .str x), ("whole", sp W 1), ("font_size", fs)]) ?ho ?hc ?hb ?hs ?hh; (case ho => (show List.lookup _ (Mine.frame.heap_1 (World.params _)) = _; k_is)); (case hc => (show codeIn (Mine.frame.heap_1 (World.params _)) _ _ = true; k_is)); (case hb => exact bindK3 fun s v1 v2 v3 X => binds_K X rfl (by (show List.lookup _ (Mine.frame.heap_1 (World.params _)) = _); k_is) rfl rfl (by kernel_rfl!)); (case hs => exact rfl)))
  (conv => whnf)
  rcases ht with ⟨hu, hn⟩ | ⟨p, hu, hn, rfl⟩
  · refine c_unit hu (fun _ => ?_) (fun e => by cases e) hl
    (repeat (first | wtm_at "vc0" | ((conv => whnf); wtm_at "vc0")))
    (conv => whnf)
    refine c_read hn fun a b σ1 f1 l1 => ?_
    (repeat (first | wtm_at "vc0" | ((conv => whnf); wtm_at "vc0")))
    (conv => whnf)
    rename_i Z fZ
    refine c_times f1 F.one (by omega) fun c d f2 => ?_
    rw [Rat.mul_one] at f2
    exact k c d _ (f2.up (by omega)) (l1.upd (none_of_le l1 fZ))
  · refine c_unit hu (fun e => by cases e) (fun _ => ?_) hl
    (repeat (first | wtm_at "vc0" | ((conv => whnf); wtm_at "vc0")))
    (conv => whnf)
    refine c_read hn fun a b σ1 f1 l1 => ?_
    (repeat (first | wtm_at "vc0" | ((conv => whnf); wtm_at "vc0")))
    (conv => whnf)
    refine c_times f1 (F.whole hW) (by omega) fun c d f2 => ?_
    (repeat (first | wtm_at "vc0" | ((conv => whnf); wtm_at "vc0")))
    (conv => whnf)
    refine c_divH f2 (by omega) fun e f f3 => ?_
    rw [pct_val] at f3
    exact k e f _ (f3.up (by omega)) l1
/-- a length with the font size left out -/
theorem c_length2 {x : Str} {W h : Int} (hu : UnB x false) (hn : NumT x h) (hl : (Txt.slice x none (some (-1))).length ≤ 1000000) (k : ∀ a b σ', F 200 (val h 100) a b → SLe σ σ' → Q (sp a b) σ') : CallP w (D + 14) (.ref 1043) [.str x, sp W 1] σ Q := by
  refine CodeP.call ?_
  refine' enterW (n := 60) (vars0 := [("text", .str x), ("whole", sp W 1), ("font_size", sp 16 1)]) ?ho ?hc ?hb ?hs ?hh; (case ho => (show List.lookup _ (Mine.frame.heap_1 (World.params _)) = _); k_is); (case hc => (show codeIn (Mine.frame.heap_1 (World.params _)) _ _ = true); k_is); (case hs => exact rfl)
  case hb => exact bindK21 (u3 := .ref 1035) (fun s v1 v2 X => binds_K X rfl (by (show List.lookup _ (Mine.frame.heap_1 (World.params _)) = _); k_is) rfl rfl (by kernel_rfl!)) (fun _ => .tup (vs := [.int 16 1714, .int 1 1715]) ⟨0, .inr (by (show List.lookup _ (Mine.frame.heap_1 (World.params _)) = _); k_is)⟩ (.cons (.int _ _) (.cons (.int _ _) .nil)))
  (conv => whnf)
  refine c_unit hu (fun _ => ?_) (fun e => by cases e) hl
  (repeat (first | wtm_at "vc0" | ((conv => whnf); wtm_at "vc0")))
  (conv => whnf)
  refine c_read hn fun a b σ1 f1 l1 => ?_
  (repeat (first | wtm_at "vc0" | ((conv => whnf); wtm_at "vc0")))
  (conv => whnf)
  rename_i Z fZ
  refine c_times f1 F.one (by omega) fun c d f2 => ?_
  rw [Rat.mul_one] at f2
  exact k c d _ (f2.up (by omega)) (l1.upd (none_of_le l1 fZ))
end
end
section
set_option backward.match.sparseCases false
noncomputable abbrev lkNs (T : Addr) : MO := .ns [("values", .val (.ref T))]
section
variable {w : World} {D : Nat} {σ : Sto} {Q : Dat → Sto → Prop}
theorem c_lkText {a m T : Addr} {fs : List (Str × Dat)} {n : Str} {d : Dat} (hm : σ m = some (lkNs T)) (hT : σ T = some (.dict fs)) (hd : look fs n = some d) (h : Q d σ) : CallP w (D + 2) (.ref 1064) [.inst a 1133 m, .str n] σ Q := by
  (refine CodeP.call ?_; (refine' enterW (n := 60) (vars0 := [("self", .inst a 1133 m), ("name", .str n)]) ?ho ?hc ?hb ?hs ?hh; (case ho => (show List.lookup _ (Mine.frame.heap_1 (World.params _)) = _; k_is)); (case hc => (show codeIn (Mine.frame.heap_1 (World.params _)) _ _ = true; k_is)); (case hb => exact bind2 fun _ _ => by kernel_rfl!); (case hs => exact rfl)))
  (repeat (first | wtm_at "vc0" | ((conv => whnf); wtm_at "vc0")))
  (conv => whnf)
  exact som_i (o := look fs n) hd h
theorem c_lkFont {a m T : Addr} {fs : List (Str × Dat)} {x : Str} {h0 : Int} (hm : σ m = some (lkNs T)) (hT : σ T = some (.dict fs)) (hd : look fs "font-size" = some (.str x)) (hu : UnB x false) (hn : NumT x h0) (hl : (Txt.slice x none (some (-1))).length ≤ 1000000) (h : ∀ a b σ', F 200 (val h0 100) a b → SLe σ σ' → Q (sp a b) σ') : CallP w (D + 16) (.ref 1071) [.inst a 1133 m] σ Q := by
  (refine CodeP.call ?_; (refine' enterW (n := 60) (vars0 := [("self", .inst a 1133 m)]) ?ho ?hc ?hb ?hs ?hh; (case ho => (show List.lookup _ (Mine.frame.heap_1 (World.params _)) = _; k_is)); (case hc => (show codeIn (Mine.frame.heap_1 (World.params _)) _ _ = true; k_is)); (case hb => exact bind1 fun _ => by kernel_rfl!); (case hs => exact rfl)))
  (repeat (first | wtm_at "vc0" | ((conv => whnf); wtm_at "vc0")))
  (conv => whnf)
  refine som_i (o := look fs "font-size") hd ?_
  (conv => whnf)
  exact c_length2 hu hn hl h
theorem c_lkLength {a m T : Addr} {fs : List (Str × Dat)} {x n y : Str} {h0 h1 W : Int} (hm : σ m = some (lkNs T)) (hT : σ T = some (.dict fs)) (hd : look fs "font-size" = some (.str x)) (hu : UnB x false) (hn : NumT x h0) (hl : (Txt.slice x none (some (-1))).length ≤ 1000000)
    (hy : look fs n = some (.str y)) (hW : Bd 60 W) (ht : LenT W y h1) (hz : (Txt.slice y none (some (-1))).length ≤ 1000000) (h : ∀ a b σ', F 200 (val h1 100) a b → SLe σ σ' → Q (sp a b) σ') : CallP w (D + 18) (.ref 1080) [.inst a 1133 m, .str n, sp W 1] σ Q := by
  (refine CodeP.call ?_; (refine' enterW (n := 60) (vars0 := [("self", .inst a 1133 m), ("name", .str n), ("whole", sp W 1)]) ?ho ?hc ?hb ?hs ?hh; (case ho => (show List.lookup _ (Mine.frame.heap_1 (World.params _)) = _; k_is)); (case hc => (show codeIn (Mine.frame.heap_1 (World.params _)) _ _ = true; k_is)); (case hb => exact bindK3 fun s v1 v2 v3 X => binds_K X rfl (by (show List.lookup _ (Mine.frame.heap_1 (World.params _)) = _); k_is) rfl rfl (by kernel_rfl!)); (case hs => exact rfl)))
  (repeat (first | wtm_at "vc0" | ((conv => whnf); wtm_at "vc0")))
  (conv => whnf)
  refine som_i (o := look fs n) hy ?_
  (repeat (first | wtm_at "vc0" | ((conv => whnf); wtm_at "vc0")))
  (conv => whnf)
  refine c_lkFont hm hT hd hu hn hl fun c d σ1 f1 l1 => ?_
  (repeat (first | wtm_at "vc0" | ((conv => whnf); wtm_at "vc0")))
  (conv => whnf)
  exact c_length hW ht hz fun a b σ' f l => h a b σ' f (l1.trans l)
theorem c_lkNumber {a m T : Addr} {fs : List (Str × Dat)} {n y : Str} {h1 : Int} (hm : σ m = some (lkNs T)) (hT : σ T = some (.dict fs)) (hy : look fs n = some (.str y)) (ht : NumT y h1) (h : ∀ a b σ', F 200 (val h1 100) a b → SLe σ σ' → Q (sp a b) σ') : CallP w (D + 12) (.ref 1094) [.inst a 1133 m, .str n] σ Q := by
  (refine CodeP.call ?_; (refine' enterW (n := 60) (vars0 := [("self", .inst a 1133 m), ("name", .str n)]) ?ho ?hc ?hb ?hs ?hh; (case ho => (show List.lookup _ (Mine.frame.heap_1 (World.params _)) = _; k_is)); (case hc => (show codeIn (Mine.frame.heap_1 (World.params _)) _ _ = true; k_is)); (case hb => exact bind2 fun _ _ => by kernel_rfl!); (case hs => exact rfl)))
  (repeat (first | wtm_at "vc0" | ((conv => whnf); wtm_at "vc0")))
  (conv => whnf)
  refine som_i (o := look fs n) hy ?_
  (conv => whnf)
  refine c_read ht fun a b σ1 f1 l1 => ?_
  exact h a b σ1 (f1.up (by omega)) l1
end
end
section
set_option backward.match.sparseCases false
section
variable {c : Cx} {w : World} {env : Env} {vars : Vars} {σ : Sto} {D : Nat} {sc : List (Str × NameKind)}
theorem bndT {α β : Type} {RR : Led → α → β → Prop} {m : Str → Option Value} {led : Led} {s : Shared} {Q : β → Sto → Prop} {M : Model} {A : Around} {s0 : Shared} {E : Value → Shared → Prop} {t : Sem α} {R : α → Shared → Prop} {n : Nat} (hn : n ≤ s0.toks) (H : wpAny M A t (PostG c w env vars RR m led σ s Q) Never s0)
    (k : ∀ v b σ' led' h' tk', n ≤ tk' → Inv c w env h' m led' σ' vars → Ext σ led σ' led' → RR led' v b → Q b σ' → R v { s with heap := h', toks := tk' }) : wpAny M A t R E s0 :=
  wpAny_mono (wpAny_toks_of hn H) (fun v s' p => by
    obtain ⟨hp, b, σ', led', h', tk', e, I, X, r, q⟩ := p
    subst e
    exact k v b σ' led' h' tk' hp I X r q) fun _ _ e => never e.2
/-- a text compared with a text: the token counter is above 0 behind it -/
theorem eq_pos (O : EnvOk env sc) {x y z : Str} {k : Nat} {p p2 pc : Pos} {whole : Sem Value} {s : Shared} {m : Str → Option Value} {led : Led} (hx : okName x = true) (e : look vars x = some (.str z)) (I : Inv c w env s.heap m led σ vars) {R : Bool → Shared → Prop}
    (h : ∀ led' h' tk', 0 < tk' → Inv c w env h' m led' σ vars → Ext σ led σ led' → R (sEq z y) { s with heap := h', toks := tk' }) :
    wpAny (model c.prog w) c.A (isTrue (.Compare (.Name x p) [.Eq] [.Constant (.str y) k p2] pc) env whole) R Never s := by
  refine wpAny_isTrue_Compare1 (bndG (ev_var O hx e (Q := fun d σ' => d = .str z ∧ σ' = σ) ⟨rfl, rfl⟩ s m led I) ?_) rfl
  intro v1 d σ1 led1 h1 tk1 I1 X1 R1 q1
  obtain ⟨rfl, rfl⟩ := q1
  cases R1
  exact Calls.Constant_str (P.eq_str (wpAny_truthy_bool (strEq_list.symm ▸ h _ _ _ (Nat.succ_pos _) I1 X1)))
theorem if_pos_no (O : EnvOk env sc) {x y1 y2 z : Str} {k1 k2 : Nat} {p1 p2 p3 p4 p5 p6 p7 pos : Pos} {body : List Stmt} {s : Shared} {m : Str → Option Value} {led : Led} (hx : okName x = true) (e : look vars x = some (.str z)) (e1 : sEq z y1 = false) (e2 : sEq z y2 = false) (I : Inv c w env s.heap m led σ vars) {R : Flow → Shared → Prop}
    (h : ∀ led' h' tk', 0 < tk' → Inv c w env h' m led' σ vars → Ext σ led σ led' → R .next { s with heap := h', toks := tk' }) :
    wpAny (model c.prog w) c.A (exec (.If (.BoolOp .Or [.Compare (.Name x p1) [.Eq] [.Constant (.str y1) k1 p2] p3, .Compare (.Name x p4) [.Eq] [.Constant (.str y2) k2 p5] p6] p7) body [] pos) env) R Never s := by
  refine wpAny_If (isTrue_or (eq_pos O hx e I fun led1 h1 tk1 hp I1 X1 => ?_))
  rw [e1, if_neg (by decide)]
  refine isTrue_or (eq_pos O hx e (s := { s with heap := h1, toks := tk1 }) I1 fun led2 h2 tk2 hp I2 X2 => ?_)
  rw [e2, if_neg (by decide)]
  refine isTrue_or_nil ?_
  rw [if_neg (by decide)]
  exact wpAny_execs_nil (h _ _ _ hp I2 (X1.trans X2))
/-- commas made spaces -/
theorem rep_at (K : c.Ok w D) (O : EnvOk env sc) {x z : Str} {k1 k2 : Nat} {p p1 p2 ap pos : Pos} {s : Shared} {m : Str → Option Value} {led : Led} (hx : okName x = true) (e : look vars x = some (.str z)) (hb : Nat.beq ap.endLine pos.line = true) (hz : z.length ≤ 1000000) (I : Inv c w env s.heap m led σ vars) (h0 : 0 < s.toks) :
    wpAny (model c.prog w) c.A (eval (.Call (.Attribute (.Name x p) "replace" ap) [.Constant (.str ",") k1 p1, .Constant (.str " ") k2 p2] [] pos) env) (PostG c w env vars (RV w) m led σ s fun d σ' => d = .str (Txt.replace z "," " ") ∧ σ' = σ) Never s := by
  refine MethodCall_ (pl := do return (← importBound (.Name x p) env).getD true) (bndT h0 (ev_var O hx e (Q := fun d σ' => d = .str z ∧ σ' = σ) ⟨rfl, rfl⟩ s m led I) ?_) (meth_eq rfl hb rfl rfl)
  intro v1 d σ1 led1 h1 tk1 hp I1 X1 R1 q1
  obtain ⟨rfl, rfl⟩ := q1
  cases R1
  refine GM.replace (callWith_of (P := (KK w).In) rfl (keepsV (.inr (.inl ⟨_, rfl⟩)) _) (evalArgs_ev rfl (args_cons (Calls.Constant_str (args_cons (Calls.Constant_str (args_nil ⟨K.X.keeps I1.F.keep, ?_⟩)) rfl)) rfl)))
  exact SC.replace (Nat.ne_of_gt hp) (Nat.succ_ne_zero _) (Nat.ne_of_lt (Nat.lt_succ_self _)) (by decide) (by rw [show (Str.ofString " ").length = 1 from rfl]; omega) fun t' k => mkG (b := .str _) I1 X1 (.str _ _) ⟨rfl, rfl⟩
end
end
section
set_option backward.match.sparseCases false
inductive FrL (k : Nat) : List Int → List Dat → Prop
  | nil : FrL k [] []
  | cons {h : Int} {hs : List Int} {a b : Int} {ds : List Dat} : F k (val h 100) a b → FrL k hs ds → FrL k (h :: hs) (sp a b :: ds)
theorem FrL.snoc {k : Nat} {h : Int} {a b : Int} (f : F k (val h 100) a b) : ∀ {hs : List Int} {ds : List Dat}, FrL k hs ds → FrL k (hs ++ [h]) (ds ++ [sp a b])
  | _, _, .nil => .cons f .nil
  | _, _, .cons g r => .cons g (FrL.snoc f r)
theorem FrL.len {k : Nat} : ∀ {hs : List Int} {ds : List Dat}, FrL k hs ds → hs.length = ds.length
  | _, _, .nil => rfl
  | _, _, .cons _ r => congrArg (· + 1) r.len
/-- lengths told in a text -/
structure DashW (W : Int) (z : Str) (ps : List (Str × Int)) : Prop where
  n : sEq z "none" = false
  e : sEq z "" = false
  l : z.length ≤ 1000000
  r : (Txt.replace z "," " ").length ≤ 1000000
  w : Txt.words (Txt.replace z "," " ") = ps.map (·.1)
  k : ps.length ≤ 1000
  ne : ∀ p ∈ ps, sEq p.1 "" = false
  t : ∀ p ∈ ps, LenT W p.1 p.2
  s : ∀ p ∈ ps, (Txt.slice p.1 none (some (-1))).length ≤ 1000000
noncomputable def strP (ps : List (Str × Int)) : List Dat := (ps.map (·.1)).map .str
section
variable {w : World} {D : Nat} {σ : Sto} {Q : Dat → Sto → Prop}
theorem SLe.back {σ1 σ2 : Sto} {E : Addr} {l : MO} (e : σ1 E = some l) (h : SLe (σ1.del E) σ2) : SLe σ1 (σ2.set E l) := fun a m ea => by
  by_cases q : a = E
  · subst q
    rw [e] at ea
    cases ea
    exact Sto.set_same
  · exact (Sto.set_ne q).trans (h _ _ ((Sto.del_ne q).trans ea))
theorem neS' {σ : Sto} {a b : Addr} {x y : MO} (h : σ a = some x) (k : σ b = some y) (n : x ≠ y) : a ≠ b := fun e => by
  subst e; rw [h] at k; cases k; exact n rfl
theorem strP_k {ps : List (Str × Int)} (h : ps.length ≤ 1000) : Nat.ble (strP ps).length 1000 = true := by unfold strP; rw [List.length_map, List.length_map]; exact Nat.ble_eq.mpr h
theorem split_at {c : Cx} {env : Env} {vars : Vars} (K : c.Ok w D) {y : Str} {pos : Pos} (h : smD .split y [] σ Q) : ∃ f, KeepsV w f ∧ (∀ s m led v pl (Q : Value × List Value → Shared → Prop), Inv c w env s.heap m led σ vars → RV w led v (.str y) → Q (f, [v]) s → wpAny (model c.prog w) c.A (getMethod v "split" pl) Q Never s) ∧
      EvL c w env vars σ (spliced (backTo pos (starEach [] env))) fun ds σ2 => OpL c w env vars σ2 (fun vs => call f vs) (.str y :: ds) Q := by
  refine ⟨Sm.split.val, .inr (.inl ⟨_, rfl⟩), fun s m led u pl Q' I R hQ => ?_, evs_nil (op_sm K h)⟩
  cases R
  exact get_sm (o := .split) hQ
theorem c_lengths0 {a m T : Addr} {fs : List (Str × Dat)} {n : Str} {W : Int} (hm : σ m = some (lkNs T)) (hT : σ T = some (.dict fs)) (hd : look fs n = some (.str "none")) (h : Q (.tup []) σ) : CallP w (D + 2) (.ref 1087) [.inst a 1133 m, .str n, sp W 1] σ Q := by
  (refine CodeP.call ?_; (refine' enterW (n := 60) (vars0 := [("self", .inst a 1133 m), ("name", .str n), ("whole", sp W 1)]) ?ho ?hc ?hb ?hs ?hh; (case ho => (show List.lookup _ (Mine.frame.heap_1 (World.params _)) = _; k_is)); (case hc => (show codeIn (Mine.frame.heap_1 (World.params _)) _ _ = true; k_is)); (case hb => exact bindK3 fun s v1 v2 v3 X => binds_K X rfl (by (show List.lookup _ (Mine.frame.heap_1 (World.params _)) = _); k_is) rfl rfl (by kernel_rfl!)); (case hs => exact rfl)))
  (repeat (first | wtm_at "vc0" | ((conv => whnf); wtm_at "vc0")))
  (conv => whnf)
  refine som_i (o := look fs n) hd ?_
  (repeat (first | wtm_at "vc0" | ((conv => whnf); wtm_at "vc0")))
  exact h
theorem c_lengths {a m T : Addr} {fs : List (Str × Dat)} {n x z : Str} {W h0 : Int} {ps : List (Str × Int)} (hm : σ m = some (lkNs T)) (hT : σ T = some (.dict fs)) (hd : look fs n = some (.str z)) (hW : Bd 60 W) (ht : DashW W z ps)
    (hf : look fs "font-size" = some (.str x)) (hu : UnB x false) (hn : NumT x h0) (hl : (Txt.slice x none (some (-1))).length ≤ 1000000)
    (h : ∀ ds σ', FrL 200 (ps.map (·.2)) ds → SLe σ σ' → Q (.tup ds) σ') : CallP w (D + 22) (.ref 1087) [.inst a 1133 m, .str n, sp W 1] σ Q := by
  refine CodeP.call ?_
  refine' enterV (D := D + 21) (vars0 := [("self", .inst a 1133 m), ("name", .str n), ("whole", sp W 1)]) ?ho ?hc ?hb ?h1 ?h2 ?h3 ?h4 fun c env K O hN => ?_
  case ho => (show List.lookup _ (Mine.frame.heap_1 (World.params _)) = _); k_is
  case hc => (show codeIn (Mine.frame.heap_1 (World.params _)) _ _ = true); k_is
  case hb => exact bindK3 fun s v1 v2 v3 X => binds_K X rfl (by (show List.lookup _ (Mine.frame.heap_1 (World.params _)) = _); k_is) rfl rfl (by kernel_rfl!)
  case h1 => rfl
  case h2 => rfl
  case h3 => rfl
  case h4 => rfl
  refine st_cons ((sound_W (tabs_ok w) 60).s K O hN ?_)
  (repeat (first | wtm_at "vc0" | ((conv => whnf); wtm_at "vc0")))
  (conv => whnf)
  refine som_i (o := look fs n) hd ?_
  (conv => whnf)
  intro s m1 led I
  refine wpAny_execs_cons (if_pos_no O.toEnvOk rfl rfl ht.n ht.e I fun led1 h1 tk1 h0 I1 X1 => ?_)
  refine wpAny_execs_cons (bndS (K := fun f v σ' => ∃ E, f = .next ∧ v = ([("words", .val (.ref E)), ("told", .str z), ("self", .inst a 1133 m), ("name", .str n), ("whole", sp W 1)] : Vars) ∧ σ' E = some (.list (strP ps)) ∧ SLe σ σ') (st_assignComp_at (vars := [("told", .str z), ("self", .inst a 1133 m), ("name", .str n), ("whole", sp W 1)]) (σ := σ) (led := led1) (m := m1) (s := { s with heap := h1, toks := tk1 }) K O rfl rfl rfl rfl hN (ev_meth_at K rfl rfl rfl rfl (bndG (rep_at K O.toEnvOk rfl rfl rfl ht.l I1 h0) ?_))) ?_)
  · intro v d σ1 led2 h2 tk2 I2 X2 R2 q2
    obtain ⟨rfl, rfl⟩ := q2
    refine mkG I2 X2 R2 ?_
    refine split_at K ?_
    refine ⟨ht.r, fun E eE => ?_⟩
    rw [ht.w]
    refine ⟨strP ps, Sto.set_same, strP_k ht.k, fun C B => ?_⟩
    · refine wpC_ok (tabs_ok w) (sound_W (tabs_ok w) 60) K (sc := ⟨false, _⟩) B ?_
      refine CmpX.inv (fun rest acc σ' => σ' = (σ1.set E (.list (strP ps))).del E ∧ ∃ l1 l2, acc = strP l1 ∧ rest = strP l2 ∧ l1 ++ l2 = ps) ⟨rfl, [], ps, rfl, rfl, rfl⟩ ?_ ?_
      · rintro acc σ2 ⟨rfl, l1, l2, rfl, e2, e3⟩
        cases l2 with
        | cons => cases e2
        | nil =>
          rw [List.append_nil] at e3
          subst e3
          intro D eD
          refine ⟨D, rfl, rfl, Sto.set_same, ?_⟩
          exact SLe.upd ((SLe.upd SLe.rfl eE).trans (SLe.back (σ1 := σ1.set E _) Sto.set_same SLe.rfl)) (none_of_le ((SLe.upd SLe.rfl eE).trans (SLe.back (σ1 := σ1.set E _) Sto.set_same SLe.rfl)) eD)
      · rintro d ds acc σ2 ⟨rfl, l1, l2, rfl, e2, e3⟩
        cases l2 with
        | nil => cases e2
        | cons p l2 =>
          obtain ⟨rfl, rfl⟩ := List.cons.inj e2
          (repeat (first | wtm_at "vc0" | ((conv => whnf); wtm_at "vc0")))
          (conv => whnf)
          refine brn_ (fun _ => ?_) (fun q => ?_)
          · (conv => whnf)
            refine ⟨rfl, l1 ++ [p], l2, ?_, rfl, by rw [List.append_assoc]; exact e3⟩
            unfold strP; rw [List.map_append, List.map_append]; rfl
          · exfalso
            have q2 := ht.ne p (e3 ▸ List.mem_append_right _ List.mem_cons_self)
            have q : ngB true (sEq p.1 "") = false := q
            rw [q2] at q
            cases q
  · intro f fl vars1 m2 σ1 led2 h2 tk2 I2 X2 R2 q2
    obtain ⟨E, rfl, rfl, eE, le⟩ := q2
    cases R2
    refine (X1.c.trans X2).on (s := s) (wpB_ok (sound_W (tabs_ok w) 60) K O hN ?_ _ m2 led2 I2)
    (repeat (first | wtm_at "vc0" | ((conv => whnf); wtm_at "vc0")))
    refine And.intro (strP_k ht.k) ?_
    (conv => whnf)
    refine CmpX.inv (fun rest acc σ' => ∃ l1 l2, FrL 200 (l1.map (·.2)) acc ∧ rest = strP l2 ∧ l1 ++ l2 = ps ∧ SLe (σ1.del E) σ') ?_ ?_ ?_
    · exact ⟨[], ps, .nil, rfl, rfl, SLe.rfl⟩
    · rintro acc σ2 ⟨l1, l2, e1, e2, e3, le2⟩
      cases l2 with
      | cons => cases e2
      | nil =>
        rw [List.append_nil] at e3
        subst e3
        have le3 : SLe σ (σ2.set E (.list (strP l1))) := le.trans (SLe.back eE le2)
        (repeat (first | wtm_at "vc0" | ((conv => whnf); wtm_at "vc0")))
        refine And.intro ?_ ?_
        · rw [← e1.len, List.length_map]; exact Nat.ble_eq.mpr ht.k
        (conv => whnf)
        exact h _ _ e1 (SLe.upd le3 (none_of_le le3 ‹_›))
    · rintro d ds acc σ2 ⟨l1, l2, e1, e2, e3, le2⟩
      cases l2 with
      | nil => cases e2
      | cons p l2 =>
        obtain ⟨rfl, rfl⟩ := List.cons.inj e2
        have hm2 : σ2 m = some (lkNs T) := le2 _ _ ((Sto.del_ne (neS' (le _ _ hm) eE nofun)).trans (le _ _ hm))
        have hT2 : σ2 T = some (.dict fs) := le2 _ _ ((Sto.del_ne (neS' (le _ _ hT) eE nofun)).trans (le _ _ hT))
        (repeat (first | wtm_at "vc0" | ((conv => whnf); wtm_at "vc0")))
        (conv => whnf)
        refine c_lkFont hm2 hT2 hf hu hn hl fun c1 d1 σ3 f3 l3 => ?_
        (repeat (first | wtm_at "vc0" | ((conv => whnf); wtm_at "vc0")))
        (conv => whnf)
        have pm : p ∈ ps := e3 ▸ List.mem_append_right _ List.mem_cons_self
        refine c_length hW (ht.t p pm) (ht.s p pm) fun a4 b4 σ4 f4 l4 => ?_
        (conv => whnf)
        refine ⟨l1 ++ [p], l2, ?_, rfl, by rw [List.append_assoc]; exact e3, le2.trans (l3.trans l4)⟩
        rw [List.map_append]
        exact e1.snoc f4
end
end
section
set_option backward.match.sparseCases false
theorem sq_nn (x : Int) : 0 ≤ x * x := by
  rcases Int.le_total 0 x with h | h
  · exact Int.mul_nonneg h h
  · have := Int.mul_nonneg (show 0 ≤ -x by omega) (show 0 ≤ -x by omega)
    rwa [Int.neg_mul_neg] at this
theorem root_leq {q r j : Int} (h : IsRoot q r) (hj : 0 ≤ j) : j * j ≤ q ↔ j ≤ r := by
  obtain ⟨h0, h1, h2⟩ := h
  constructor
  · intro e
    rcases Int.lt_or_le r j with hl | hl
    · have : (r + 1) * (r + 1) ≤ j * j := Int.mul_le_mul (by omega) (by omega) (by omega) (by omega)
      omega
    · exact hl
  · intro e
    have : j * j ≤ r * r := Int.mul_le_mul e e hj h0
    omega
theorem nrs_count {P S r k : Int} (hS : 0 < S) (h : IsRoot (P.fdiv S) r) (hP : 0 ≤ P) (hk : 1 ≤ k) : (2 * k - 1) * (2 * k - 1) * S ≤ P ↔ k ≤ (r + 1).fdiv 2 := by
  rw [Int.fdiv_eq_ediv_of_nonneg _ (by omega)] at h
  rw [Int.fdiv_eq_ediv_of_nonneg _ (by omega), ← Int.le_ediv_iff_mul_le hS, root_leq h (by omega)]
  omega
theorem abs_sq (x : Int) : (x.natAbs : Int) * x.natAbs = x * x := by
  rcases Int.natAbs_eq x with h | h <;> (rw [← Int.natCast_mul, ← Int.natAbs_mul]; exact Int.natAbs_of_nonneg (sq_nn x))
theorem nrs_sign {p S i : Int} (hS : 0 < S) (h : NRS p S i) : (0 ≤ p → 0 ≤ i) ∧ (p < 0 → i ≤ 0) ∧ (p = 0 → i = 0) ∧ (S ≤ 4 * (p * p) → i ≠ 0) := by
  obtain ⟨r, hr, rfl⟩ := h
  have e4 : 4 * (p.natAbs : Int) * p.natAbs = 4 * (p * p) := by rw [Int.mul_assoc, abs_sq]
  rw [e4, Int.fdiv_eq_ediv_of_nonneg _ (Int.le_of_lt hS)] at hr
  have h0 := hr.1
  have e : (r + 1).fdiv 2 = (r + 1) / 2 := Int.fdiv_eq_ediv_of_nonneg _ (by decide)
  rw [e]
  refine ⟨fun hp => ?_, fun hp => ?_, fun hp => ?_, fun hp => ?_⟩
  · rw [if_neg (by omega)]; omega
  · rw [if_pos hp]; omega
  · subst hp
    rw [if_neg (by omega)]
    have h1 : r * r ≤ 0 := by simpa using hr.2.1
    have : r = 0 := by
      rcases Int.lt_or_le 0 r with hl | hl
      · have := Int.mul_pos hl hl; omega
      · omega
    omega
  · have h1 : 1 ≤ 4 * (p * p) / S := (Int.le_ediv_iff_mul_le hS).mpr (by omega)
    have h2 : 1 ≤ r := (root_leq (j := 1) hr (by omega)).mp (by omega)
    split <;> omega
theorem quad {dx dy h nx ny : Int} (hx : 0 < dx) (hh : 1 ≤ h) (h1 : NRS (dy * h) (dx * dx + dy * dy) nx) (h2 : NRS (-dx * h) (dx * dx + dy * dy) ny) :
    (nx ≠ 0 ∨ ny ≠ 0) ∧ 0 < dy * nx - dx * ny := by
  have hS : 0 < dx * dx + dy * dy := by
    have := Int.mul_pos hx hx; have := sq_nn dy; omega
  obtain ⟨a1, a2, a3, a4⟩ := nrs_sign hS h1
  obtain ⟨b1, b2, b3, b4⟩ := nrs_sign hS h2
  have hny : ny ≤ 0 := b2 (by have := Int.mul_pos hx (show 0 < h by omega); rw [Int.neg_mul]; omega)
  have key : nx ≠ 0 ∨ ny ≠ 0 := by
    have e1 : 4 * (dy * h * (dy * h)) + 4 * (-dx * h * (-dx * h)) = 4 * (h * h) * (dx * dx + dy * dy) := by grind
    have e2 : 4 * (dx * dx + dy * dy) ≤ 4 * (h * h) * (dx * dx + dy * dy) := by
      have : 1 * 1 ≤ h * h := Int.mul_le_mul hh hh (by omega) (by omega)
      exact Int.mul_le_mul_of_nonneg_right (by omega) (Int.le_of_lt hS)
    by_cases hc : dx * dx + dy * dy ≤ 4 * (dy * h * (dy * h))
    · exact .inl (a4 hc)
    · exact .inr (b4 (by omega))
  refine ⟨key, ?_⟩
  have p2 : 0 ≤ dx * -ny := Int.mul_nonneg (Int.le_of_lt hx) (by omega)
  have e2 : dx * -ny = -(dx * ny) := Int.mul_neg _ _
  rcases Int.lt_trichotomy dy 0 with hd | hd | hd
  · have n1 : nx ≤ 0 := a2 (Int.mul_neg_of_neg_of_pos hd (by omega))
    have p1 : 0 ≤ -dy * -nx := Int.mul_nonneg (by omega) (by omega)
    have e1 : -dy * -nx = dy * nx := Int.neg_mul_neg _ _
    rcases key with k | k
    · have : 0 < -dy * -nx := Int.mul_pos (by omega) (by omega)
      omega
    · have : 0 < dx * -ny := Int.mul_pos hx (by omega)
      omega
  · subst hd
    have z : nx = 0 := a3 (Int.zero_mul h)
    have : 0 < dx * -ny := Int.mul_pos hx (by rcases key with k | k; exact absurd z k; omega)
    rw [Int.zero_mul]; omega
  · have n1 : 0 ≤ nx := a1 (Int.mul_nonneg (Int.le_of_lt hd) (by omega))
    rcases key with k | k
    · have : 0 < dy * nx := Int.mul_pos hd (by omega)
      omega
    · have : 0 < dx * -ny := Int.mul_pos hx (by omega)
      have : 0 ≤ dy * nx := Int.mul_nonneg (Int.le_of_lt hd) n1
      omega
theorem val_mulI (h l : Int) : val h 100 * val l 1 = val (h * l) 100 := by
  unfold val; rw [Rat.intCast_mul]; have e1 : ((1 : Int) : Rat) = 1 := rfl; rw [e1]; grind
theorem rnd_grains {h l i : Int} (r : Rnd (val h 100 * val l 1) i) : i = (2 * h * l + 100).fdiv 200 := by
  rw [val_mulI] at r
  have := r.eq (b := 100) (by decide) rfl
  rw [this, Int.mul_assoc]
  rfl
theorem rnd_led {u v c x y lo g i : Int} (hl : 0 < lo) (r : Rnd ((val u 2 * val x lo + val v 2 * val y lo + val c 2) * val g 1) i) : i = (2 * ((u * x + v * y + c * lo) * g) + 2 * lo).fdiv (2 * (2 * lo)) := by
  have hl' : (lo : Rat) ≠ 0 := fun e => by
    have : lo = 0 := by exact_mod_cast e
    omega
  have e : (val u 2 * val x lo + val v 2 * val y lo + val c 2) * val g 1 = val ((u * x + v * y + c * lo) * g) (2 * lo) := by
    unfold val
    rw [Rat.intCast_mul, Rat.intCast_add, Rat.intCast_add, Rat.intCast_mul, Rat.intCast_mul, Rat.intCast_mul, Rat.intCast_mul]
    have e1 : ((1 : Int) : Rat) = 1 := rfl
    have e2 : ((2 : Int) : Rat) = 2 := rfl
    rw [e1, e2]
    grind
  rw [e] at r
  exact r.eq (b := 2 * lo) (by omega) rfl
theorem nrs_abs {p S v : Int} (hS : 0 < S) (hv : NRS p S v) : ∀ k : Int, 1 ≤ k → ((2 * k - 1) * (2 * k - 1) * S ≤ 4 * p * p ↔ k ≤ v.natAbs) := by
  intro k hk
  obtain ⟨r, hr, e⟩ := hv
  have e4 : 4 * (p.natAbs : Int) * p.natAbs = 4 * p * p := by rw [Int.mul_assoc, abs_sq, Int.mul_assoc]
  rw [e4] at hr
  have hP : 0 ≤ 4 * p * p := by rw [Int.mul_assoc]; have := sq_nn p; omega
  rw [nrs_count hS hr hP hk]
  have h0 := hr.1
  rw [Int.fdiv_eq_ediv_of_nonneg _ (by decide)] at e ⊢
  have : (v.natAbs : Int) = (r + 1) / 2 := by
    split at e <;> omega
  rw [this]
theorem nrs_val {p S v : Int} (hS : 0 < S) (hv : NRS p S v) : (0 < p → v = v.natAbs) ∧ (¬ 0 < p → v = -(v.natAbs : Int)) := by
  obtain ⟨a1, a2, a3, -⟩ := nrs_sign hS hv
  refine ⟨fun h => ?_, fun h => ?_⟩
  · have := a1 (by omega); omega
  · have : v ≤ 0 := by
      rcases Int.lt_or_le p 0 with q | q
      · exact a2 q
      · have := a3 (by omega); omega
    omega
theorem sq_le {a b : Int} (hb : 0 ≤ b) (h : a * a ≤ b * b) : a ≤ b := by
  rcases Int.lt_or_le b a with q | q
  · have : (b + 1) * (b + 1) ≤ a * a := Int.mul_le_mul (by omega) (by omega) (by omega) (by omega)
    have e : (b + 1) * (b + 1) = b * b + 2 * b + 1 := by grind
    omega
  · exact q
theorem nrs_small {q h S v : Int} (hS : 0 < S) (hq : q * q ≤ S) (hh : 1 ≤ h) (hv : NRS (q * h) S v) : (v.natAbs : Int) ≤ h := by
  rcases Int.lt_or_le h v.natAbs with c | c
  · exfalso
    have h1 := (nrs_abs hS hv v.natAbs (by omega)).mpr (Int.le_refl _)
    have e1 : 4 * (q * h) * (q * h) = 4 * (h * h) * (q * q) := by grind
    have e2 : 4 * (h * h) * (q * q) ≤ 4 * (h * h) * S := Int.mul_le_mul_of_nonneg_left hq (by have := sq_nn h; omega)
    have h2 : (2 * (v.natAbs : Int) - 1) * (2 * (v.natAbs : Int) - 1) * S ≤ 4 * (h * h) * S := by omega
    have h3 : (2 * (v.natAbs : Int) - 1) * (2 * (v.natAbs : Int) - 1) ≤ 4 * (h * h) := Int.le_of_mul_le_mul_right h2 hS
    have h4 : (2 * (v.natAbs : Int) - 1) * (2 * (v.natAbs : Int) - 1) ≤ (2 * h) * (2 * h) := by
      have e3 : (2 * h) * (2 * h) = 4 * (h * h) := by grind
      omega
    have := sq_le (by omega) h4
    omega
  · exact c
/-- the count of the turns, told by the nearest share -/
theorem quad_sens {x1 y1 x2 y2 h vx vy : Int} (hx : x1 < x2) (hh : 1 ≤ h) (h1 : NRS ((y2 - y1) * h) ((x2 - x1) * (x2 - x1) + (y2 - y1) * (y2 - y1)) vx) (h2 : NRS (-(x2 - x1) * h) ((x2 - x1) * (x2 - x1) + (y2 - y1) * (y2 - y1)) vy) :
    ¬(x2 + vx = x1 + vx ∧ y2 + vy = y1 + vy) ∧ ¬(x2 - vx = x2 + vx ∧ y2 - vy = y2 + vy) ∧ ¬(x1 - vx = x2 - vx ∧ y1 - vy = y2 - vy) ∧ ¬(x1 - vx = x1 + vx ∧ y1 - vy = y1 + vy) ∧
    0 < 0 + (x2 + vx - (x1 + vx)) * (y2 - vy - (y1 + vy)) - (y2 + vy - (y1 + vy)) * (x2 - vx - (x1 + vx)) + (x2 - vx - (x1 + vx)) * (y1 - vy - (y1 + vy)) - (y2 - vy - (y1 + vy)) * (x1 - vx - (x1 + vx)) := by
  obtain ⟨k1, k2⟩ := quad (dx := x2 - x1) (dy := y2 - y1) (by omega) hh h1 h2
  have e : 0 + (x2 + vx - (x1 + vx)) * (y2 - vy - (y1 + vy)) - (y2 + vy - (y1 + vy)) * (x2 - vx - (x1 + vx)) + (x2 - vx - (x1 + vx)) * (y1 - vy - (y1 + vy)) - (y2 - vy - (y1 + vy)) * (x1 - vx - (x1 + vx)) = 4 * ((y2 - y1) * vx - (x2 - x1) * vy) := by grind
  refine ⟨by omega, by omega, by omega, by omega, ?_⟩
  rw [e]; omega
theorem stretch_le {i t : Int} (h1 : (i - 1) * (i - 1) ≤ t) (h0 : 1 ≤ i) (ht : t ≤ 32) : i ≤ 6 := by
  rcases Int.lt_or_le 6 i with h | h
  · have : 6 * 6 ≤ (i - 1) * (i - 1) := Int.mul_le_mul (by omega) (by omega) (by omega) (by omega)
    omega
  · exact h
noncomputable def StrOk (z1 z2 z3 z4 i : Int) : Prop := (i - 1) * (i - 1) ≤ ((z1 * z4 - z2 * z3).natAbs : Int).fdiv 4 ∧ ((z1 * z4 - z2 * z3).natAbs : Int).fdiv 4 < i * i ∧ 1 ≤ i
theorem StrOk.le {z1 z2 z3 z4 i : Int} (h : StrOk z1 z2 z3 z4 i) (ha : (z1 * z4 - z2 * z3).natAbs ≤ 128) : 1 ≤ i ∧ i ≤ 6 :=
  ⟨h.2.2, stretch_le h.1 h.2.2 (by rw [Int.fdiv_eq_ediv_of_nonneg _ (by decide)]; omega)⟩
noncomputable def LedI (u v c x y lo g : Int) : Int := (2 * ((u * x + v * y + c * lo) * g) + 2 * lo).fdiv (2 * (2 * lo))
theorem det_zero {n d z1 z2 z3 z4 : Int} (hd : 0 < d) (h : val n d = val z1 2 * val z4 2 - val z2 2 * val z3 2) : n = 0 ↔ z1 * z4 - z2 * z3 = 0 := by
  have e1 : val (z1 * z4 - z2 * z3) 4 = val z1 2 * val z4 2 - val z2 2 * val z3 2 := by
    unfold val
    rw [Rat.intCast_sub, Rat.intCast_mul, Rat.intCast_mul]
    have e2 : ((2 : Int) : Rat) = 2 := rfl
    have e4 : ((4 : Int) : Rat) = 4 := rfl
    rw [e2, e4]
    grind
  have := (val_eq_iff hd (by decide)).mp (h.trans e1.symm)
  constructor
  · intro e; rw [e] at this
    have z : (z1 * z4 - z2 * z3) * d = 0 := by omega
    rcases Int.mul_eq_zero.mp z with q | q
    · exact q
    · omega
  · intro e; rw [e] at this; omega
/-- hundredths as grains -/
noncomputable def gr (h l : Int) : Int := (2 * h * l + 100).fdiv 200
theorem gr_of {h l i : Int} (r : Rnd (val h 100 * (l : Rat)) i) : i = gr h l := rnd_grains (by rw [val_one]; exact r)
theorem str_ok {a b c d u v r : Int} (hv : 0 < v) (e : val u v = val a 2 * val d 2 - val b 2 * val c 2) (h : IsRoot ((u.natAbs : Int).fdiv v) r) : StrOk a b c d (1 + r) := by
  have e1 : val (a * d - b * c) 4 = val a 2 * val d 2 - val b 2 * val c 2 := by
    unfold val
    rw [Rat.intCast_sub, Rat.intCast_mul, Rat.intCast_mul]
    have e2 : ((2 : Int) : Rat) = 2 := rfl
    have e4 : ((4 : Int) : Rat) = 4 := rfl
    rw [e2, e4]
    grind
  have e3 := (val_eq_iff hv (by decide)).mp (e.trans e1.symm)
  have e5 : (u.natAbs : Int) * 4 = ((a * d - b * c).natAbs : Int) * v := by
    have := congrArg Int.natAbs e3
    rw [Int.natAbs_mul, Int.natAbs_mul] at this
    have q : v.natAbs = v := by omega
    have : ((u.natAbs * 4 : Nat) : Int) = (((a * d - b * c).natAbs * v.natAbs : Nat) : Int) := congrArg _ this
    rw [Int.natCast_mul, Int.natCast_mul, q] at this
    exact this
  have e6 : (u.natAbs : Int).fdiv v = ((a * d - b * c).natAbs : Int).fdiv 4 := by
    rw [Int.fdiv_eq_ediv_of_nonneg _ (Int.le_of_lt hv), Int.fdiv_eq_ediv_of_nonneg _ (by decide)]
    rw [← Int.mul_ediv_mul_of_pos_left (u.natAbs : Int) v (show (0 : Int) < 4 by decide), e5, Int.mul_comm v 4]
    exact Int.mul_ediv_mul_of_pos_left _ _ hv
  rw [e6] at h
  obtain ⟨k0, k1, k2⟩ := h
  have e5 : 1 + r - 1 = r := by omega
  have e7 : 1 + r = r + 1 := Int.add_comm _ _
  unfold StrOk
  rw [e5, e7]
  exact ⟨k1, k2, by omega⟩
end
section
set_option backward.match.sparseCases false
noncomputable def intsD (l : List Int) : List Dat := l.map .int
theorem intsD_nil : intsD [] = [] := rfl
theorem intsD_snoc (l : List Int) (i : Int) : intsD l ++ [.int i] = intsD (l ++ [i]) := by unfold intsD; rw [List.map_append]; rfl
theorem intsD_len (l : List Int) : (intsD l).length = l.length := List.length_map ..
noncomputable def negs (l : List Int) : List Int := l.filter fun g => decide (g < 0)
theorem negs_snoc (l : List Int) (i : Int) : negs (l ++ [i]) = negs l ++ negs [i] := List.filter_append ..
theorem negs_pos {i : Int} (q : decide (i < 0) = true) : negs [i] = [i] := by unfold negs; rw [List.filter_cons, q]; rfl
theorem negs_neg {i : Int} (q : decide (i < 0) = false) : negs [i] = [] := by unfold negs; rw [List.filter_cons, q]; rfl
theorem ints_pd {σ : Sto} : ∀ l : List Int, Pd σ (.tup (intsD l)) (.tuple (l.map .int))
  | [] => .nil
  | i :: l => .cons (.int i) (ints_pd l)
theorem lay_ints : ∀ l : List Int, PyData.canLayAll0 (l.map .int) = true ∧ PyData.depthAll (l.map .int) = 0
  | [] => ⟨rfl, rfl⟩
  | i :: l => by
    obtain ⟨a, b⟩ := lay_ints l
    constructor
    · rw [List.map_cons, PyData.canLayAll0, PyData.canLay0, a]; rfl
    · rw [List.map_cons, PyData.depthAll, b]; rfl
theorem shl_ints (l : List Int) : SeqAt.shaped (.list (l.map .int)) = true := by
  unfold SeqAt.shaped; rw [PyData.canLay0, PyData.depth, (lay_ints l).1, (lay_ints l).2]; rfl
theorem sht_ints (l : List Int) : SeqAt.shaped (.tuple (l.map .int)) = true := by
  unfold SeqAt.shaped; rw [PyData.canLay0, PyData.depth, (lay_ints l).1, (lay_ints l).2]; rfl
noncomputable def cleanD (l : List Int) : List Int := match negs l with | _ :: _ => [] | [] => if l.sum = 0 then [] else l
theorem sg_of {u v h : Int} (hv : 0 < v) (e : val u v = val h 100) : decide ((if u > 0 then 1 else if u < 0 then -1 else 0 : Int) < 0) = decide (h < 0) := by
  have e2 := (val_eq_iff hv (by decide)).mp e
  have : u < 0 ↔ h < 0 := by
    constructor
    · intro q
      rcases Int.lt_or_le h 0 with r | r
      · exact r
      · have := Int.mul_nonneg r (Int.le_of_lt hv); omega
    · intro q
      have := Int.mul_neg_of_neg_of_pos q hv; omega
  refine decide_eq_decide.mpr ?_
  rw [← this]
  split
  · omega
  · split <;> omega
theorem mx_neg {h : Int} (q : decide (h < 0) = true) : (if h > 0 then h else 0) = 0 := if_neg (by have := of_decide_eq_true q; omega)
theorem mx_pos {h : Int} (q : decide (h < 0) = false) : (if h > 0 then h else 0) = h := by have := of_decide_eq_false q; split <;> omega
theorem cleanD_le (l : List Int) : (cleanD l).length ≤ l.length := by
  unfold cleanD
  cases negs l with
  | cons => exact Nat.zero_le _
  | nil =>
    show (if l.sum = 0 then [] else l).length ≤ _
    split
    · exact Nat.zero_le _
    · exact Nat.le_refl _
/-- what a look tells of dashes -/
noncomputable def DashL (W : Int) (z : Str) (ps : List (Str × Int)) : Prop := (z = "none" ∧ ps = []) ∨ DashW W z ps
structure LookW (fs : List (Str × Dat)) (W hw hs hl : Int) (ps : List (Str × Int)) (sw so sm sd sj sc : Str) : Prop where
  w : look fs "stroke-width" = some (.str sw)
  o : look fs "stroke-dashoffset" = some (.str so)
  m : look fs "stroke-miterlimit" = some (.str sm)
  d : look fs "stroke-dasharray" = some (.str sd)
  j : look fs "stroke-linejoin" = some (.str sj)
  c : look fs "stroke-linecap" = some (.str sc)
  f : look fs "font-size" = some (.str "16")
  tw : LenT W sw hw
  zw : (Txt.slice sw none (some (-1))).length ≤ 1000000
  to : LenT W so hs
  zo : (Txt.slice so none (some (-1))).length ≤ 1000000
  tm : NumT sm hl
  td : DashL W sd ps
  k : ps.length ≤ 1000
theorem un16 : UnB "16" false := unB_ok (by decide +kernel)
theorem nm16 : NumT "16" 1600 := .inl ⟨false, 0, 2, "16", by decide +kernel⟩
theorem sl16 : (Txt.slice (Str.ofString "16") none (some (-1))).length ≤ 1000000 := by decide +kernel
section
variable {w : World} {D : Nat} {σ : Sto} {Q : Dat → Sto → Prop}
theorem c_lens {a m T : Addr} {fs : List (Str × Dat)} {W hw hs hl : Int} {ps : List (Str × Int)} {sw so sm sd sj sc : Str} (hm : σ m = some (lkNs T)) (hT : σ T = some (.dict fs)) (L : LookW fs W hw hs hl ps sw so sm sd sj sc) (hW : Bd 60 W)
    (h : ∀ ds σ', FrL 200 (ps.map (·.2)) ds → SLe σ σ' → Q (.tup ds) σ') : CallP w (D + 22) (.ref 1087) [.inst a 1133 m, .str "stroke-dasharray", sp W 1] σ Q := by
  rcases L.td with ⟨e1, e2⟩ | t
  · subst e1; subst e2
    exact c_lengths0 hm hT L.d (h _ _ .nil SLe.rfl)
  · exact c_lengths hm hT L.d hW t L.f un16 nm16 sl16 h
theorem c_style {a m T : Addr} {fs : List (Str × Dat)} {W hw hs hl l : Int} {ps : List (Str × Int)} {sw so sm sd sj sc : Str} (hm : σ m = some (lkNs T)) (hT : σ T = some (.dict fs)) (L : LookW fs W hw hs hl ps sw so sm sd sj sc) (hW : Bd 60 W) (hl9 : Bd 60 l)
    (h : ∀ x e p q σ', σ e = none → F 200 (val hl 100) p q → SLe σ σ' → σ' e = some (stNs (.int (gr (if hw > 0 then hw else 0) l)) (.str sj) (.str sc) (sp p q) (.tup (intsD (cleanD (ps.map fun y => gr y.2 l)))) (.int (gr hs l))) → Q (.inst x 955 e) σ') : CallP w (D + 24) (.ref 1014) [.inst a 1133 m, sp W 1, .int l] σ Q := by
  (refine CodeP.call ?_; (refine' enterW (n := 60) (vars0 := [("look", .inst a 1133 m), ("whole", sp W 1), ("local", .int l)]) ?ho ?hc ?hb ?hs ?hh; (case ho => (show List.lookup _ (Mine.frame.heap_1 (World.params _)) = _; k_is)); (case hc => (show codeIn (Mine.frame.heap_1 (World.params _)) _ _ = true; k_is)); (case hb => exact bind3 fun _ _ _ => by kernel_rfl!); (case hs => exact rfl)))
  (repeat (first | wtm_at "vc0" | ((conv => whnf); wtm_at "vc0")))
  (conv => whnf)
  refine c_lens hm hT L hW fun ds σ1 fd l1 => ?_
  (conv => whnf)
  refine And.intro ?_ ?_
  · rw [← fd.len, List.length_map]; exact Nat.ble_eq.mpr L.k
  refine CmpX.inv (fun rest acc σ' => ∃ h1 h2, FrL 200 h2 rest ∧ acc = intsD (h1.map fun x => gr x l) ∧ h1 ++ h2 = ps.map (·.2) ∧ σ1 = σ') ⟨[], _, fd, rfl, rfl, rfl⟩ ?_ ?_
  · rintro acc _ ⟨h1, h2, f2, rfl, e2, rfl⟩
    cases f2 with
    | nil =>
      rw [List.append_nil] at e2
      subst e2
      have eg : (ps.map (·.2)).map (fun x => gr x l) = ps.map fun y => gr y.2 l := List.map_map ..
      rw [eg]
      have gk : (ps.map fun y => gr y.2 l).length ≤ 1000 := by rw [List.length_map]; exact L.k
      generalize (ps.map fun y => gr y.2 l) = gs at h gk ⊢
      have hck : Nat.ble (intsD (cleanD gs)).length 1000 = true := by rw [intsD_len]; exact Nat.ble_eq.mpr (Nat.le_trans (cleanD_le gs) gk)
      (conv => whnf)
      intro E eE
      (conv => whnf)
      refine ⟨intsD gs, Sto.set_same, by rw [intsD_len]; exact Nat.ble_eq.mpr gk, ?_⟩
      have l2 : SLe σ (σ1.set E (.list (intsD gs))) := SLe.upd l1 (none_of_le l1 eE)
      have l3 : SLe σ ((σ1.set E (.list (intsD gs))).set E (.list (intsD gs))) := SLe.upd l2 (none_of_le l1 eE)
      (conv => whnf)
      refine CmpX.inv (fun rest acc σ' => ∃ h1 h2, rest = intsD h2 ∧ acc = intsD (negs h1) ∧ h1 ++ h2 = gs ∧ σ' = (σ1.set E (.list (intsD gs))).del E) ⟨[], gs, rfl, rfl, rfl, rfl⟩ ?_ ?_
      · rintro acc _ ⟨h1, h2, e1, rfl, e2, rfl⟩
        cases h2 with
        | cons => cases e1
        | nil =>
          rw [List.append_nil] at e2
          subst e2
          (conv => whnf)
          intro N eN
          (conv => whnf)
          intro N2 eN2
          (conv => whnf)
          have l4 : SLe σ ((((σ1.set E (.list (intsD h1))).del E).set E (.list (intsD h1))).set N (.list (intsD (negs h1)))) := SLe.upd (l2.trans (SLe.back (σ1 := σ1.set E _) Sto.set_same SLe.rfl)) (none_of_le (l2.trans (SLe.back (σ1 := σ1.set E _) Sto.set_same SLe.rfl)) eN)
          have n2 : N ≠ N2 := neS eN2 Sto.set_same
          have l5 := SLe.upd (x := MO.list []) l4 (none_of_le l4 eN2)
          have hE : (((((σ1.set E (.list (intsD h1))).del E).set E (.list (intsD h1))).set N (.list (intsD (negs h1)))).set N2 (.list [])) E = some (.list (intsD h1)) := by
            have e1 : (((σ1.set E (.list (intsD h1))).del E).set E (.list (intsD h1))) E = some (.list (intsD h1)) := Sto.set_same
            have e2 : ((((σ1.set E (.list (intsD h1))).del E).set E (.list (intsD h1))).set N (.list (intsD (negs h1)))) E = some (.list (intsD h1)) := (Sto.set_ne (neS eN e1)).trans e1
            exact (Sto.set_ne (neS eN2 e2)).trans e2
          have hN : (((((σ1.set E (.list (intsD h1))).del E).set E (.list (intsD h1))).set N (.list (intsD (negs h1)))).set N2 (.list [])) N = some (.list (intsD (negs h1))) := (Sto.set_ne n2).trans Sto.set_same
          have hN2 : (((((σ1.set E (.list (intsD h1))).del E).set E (.list (intsD h1))).set N (.list (intsD (negs h1)))).set N2 (.list [])) N2 = some (.list []) := Sto.set_same
          change eqvD true _ _ (((((σ1.set E (.list (intsD h1))).del E).set E (.list (intsD h1))).set N (.list (intsD (negs h1)))).set N2 (.list [])) _
          generalize (((((σ1.set E (.list (intsD h1))).del E).set E (.list (intsD h1))).set N (.list (intsD (negs h1)))).set N2 (.list [])) = S at l5 hE hN hN2 ⊢
          refine eqvD_g ⟨.list ((negs h1).map .int), .list [], ⟨.list hN (ints_pd _), .list hN2 Pd.nil, shl_ints _, rfl⟩, ?_⟩
          have ec : cleanD h1 = match negs h1 with | _ :: _ => [] | [] => if h1.sum = 0 then [] else h1 := rfl
          cases en : negs h1 with
          | cons z zs =>
            rw [en] at ec
            (conv => whnf)
            refine brn_t ?_
            (conv => whnf)
            refine brn_t ?_
            (conv => whnf)
            intro E2 eE2
            have le : SLe σ (S.set E2 (.list [])) := SLe.upd l5 (none_of_le l5 eE2)
            have hd : (S.set E2 (.list [])) E2 = some (.list (intsD (cleanD h1))) := by rw [ec]; exact Sto.set_same
            generalize S.set E2 (.list []) = S1 at le hd ⊢
            (repeat (first | wtm_at "vc0" | ((conv => whnf); wtm_at "vc0")))
            (conv => whnf)
            refine c_lkLength (le _ _ hm) (le _ _ hT) L.f un16 nm16 sl16 L.o hW L.to L.zo fun a1 b1 S2 f2 l6 => ?_
            (conv => whnf)
            refine c_inGrains (k := 200) (by omega) f2 hl9 fun i1 r1 _ => ?_
            obtain rfl := gr_of r1
            (repeat (first | wtm_at "vc0" | ((conv => whnf); wtm_at "vc0")))
            (conv => whnf)
            refine c_lkLength (l6 _ _ (le _ _ hm)) (l6 _ _ (le _ _ hT)) L.f un16 nm16 sl16 L.w hW L.tw L.zw fun a2 b2 S3 f3 l7 => ?_
            (repeat (first | wtm_at "vc0" | ((conv => whnf); wtm_at "vc0")))
            (conv => whnf)
            refine c_cmpZ (k := 200) (by omega) f3.bn f3.bd ?_
            (conv => whnf)
            have lm := l6.trans l7
            cases qw : decide (hw < 0) with
            | true =>
              refine brn_eq ((sg_of f3.pos f3.v).trans qw) (brn_t ?_)
              have FW : F 200 (val 0 100) 0 1 := ⟨by decide, Bd.lit (by decide), Bd.lit (by decide), (val_eq_iff (by decide) (by decide)).mpr rfl⟩
              rw [mx_neg qw] at h
              (conv => whnf)
              refine c_inGrains (k := 200) (by omega) FW hl9 fun i2 r2 _ => ?_
              obtain rfl := gr_of r2
              (conv => whnf)
              (repeat (first | wtm_at "vc0" | ((conv => whnf); wtm_at "vc0")))
              (conv => whnf)
              refine c_lkText (lm _ _ (le _ _ hm)) (lm _ _ (le _ _ hT)) L.j ?_
              (repeat (first | wtm_at "vc0" | ((conv => whnf); wtm_at "vc0")))
              (conv => whnf)
              refine c_lkText (lm _ _ (le _ _ hm)) (lm _ _ (le _ _ hT)) L.c ?_
              (repeat (first | wtm_at "vc0" | ((conv => whnf); wtm_at "vc0")))
              (conv => whnf)
              refine c_lkNumber (lm _ _ (le _ _ hm)) (lm _ _ (le _ _ hT)) L.m L.tm fun a5 b5 S4 f5 l9 => ?_
              (conv => whnf)
              refine ⟨_, l9 _ _ (lm _ _ hd), hck, ?_⟩
              (repeat (first | wtm_at "vc0" | ((conv => whnf); wtm_at "vc0")))
              (conv => whnf)
              refine k_Style fun x e he => ?_
              have lz := (le.trans lm).trans l9
              exact h x e a5 b5 _ (none_of_le lz he) f5 (lz.upd (none_of_le lz he)) Sto.set_same
            | false =>
              refine brn_eq ((sg_of f3.pos f3.v).trans qw) (brn_f ?_)
              have FW := f3
              rw [mx_pos qw] at h
              (conv => whnf)
              refine c_inGrains (k := 200) (by omega) FW hl9 fun i2 r2 _ => ?_
              obtain rfl := gr_of r2
              (conv => whnf)
              (repeat (first | wtm_at "vc0" | ((conv => whnf); wtm_at "vc0")))
              (conv => whnf)
              refine c_lkText (lm _ _ (le _ _ hm)) (lm _ _ (le _ _ hT)) L.j ?_
              (repeat (first | wtm_at "vc0" | ((conv => whnf); wtm_at "vc0")))
              (conv => whnf)
              refine c_lkText (lm _ _ (le _ _ hm)) (lm _ _ (le _ _ hT)) L.c ?_
              (repeat (first | wtm_at "vc0" | ((conv => whnf); wtm_at "vc0")))
              (conv => whnf)
              refine c_lkNumber (lm _ _ (le _ _ hm)) (lm _ _ (le _ _ hT)) L.m L.tm fun a5 b5 S4 f5 l9 => ?_
              (conv => whnf)
              refine ⟨_, l9 _ _ (lm _ _ hd), hck, ?_⟩
              (repeat (first | wtm_at "vc0" | ((conv => whnf); wtm_at "vc0")))
              (conv => whnf)
              refine k_Style fun x e he => ?_
              have lz := (le.trans lm).trans l9
              exact h x e a5 b5 _ (none_of_le lz he) f5 (lz.upd (none_of_le lz he)) Sto.set_same
          | nil =>
            rw [en] at ec
            (conv => whnf)
            refine brn_f ?_
            (conv => whnf)
            refine Exists.intro (intsD h1) (And.intro hE ?_)
            (conv => whnf)
            refine Exists.intro h1 (And.intro rfl ?_)
            (conv => whnf)
            refine brn_ (fun q => ?_) (fun q => ?_)
            · have q : decide (h1.sum = 0) = true := q
              rw [if_pos (of_decide_eq_true q)] at ec
              (conv => whnf)
              refine brn_t ?_
              (conv => whnf)
              intro E2 eE2
              have le : SLe σ (S.set E2 (.list [])) := SLe.upd l5 (none_of_le l5 eE2)
              have hd : (S.set E2 (.list [])) E2 = some (.list (intsD (cleanD h1))) := by rw [ec]; exact Sto.set_same
              generalize S.set E2 (.list []) = S1 at le hd ⊢
              (repeat (first | wtm_at "vc0" | ((conv => whnf); wtm_at "vc0")))
              (conv => whnf)
              refine c_lkLength (le _ _ hm) (le _ _ hT) L.f un16 nm16 sl16 L.o hW L.to L.zo fun a1 b1 S2 f2 l6 => ?_
              (conv => whnf)
              refine c_inGrains (k := 200) (by omega) f2 hl9 fun i1 r1 _ => ?_
              obtain rfl := gr_of r1
              (repeat (first | wtm_at "vc0" | ((conv => whnf); wtm_at "vc0")))
              (conv => whnf)
              refine c_lkLength (l6 _ _ (le _ _ hm)) (l6 _ _ (le _ _ hT)) L.f un16 nm16 sl16 L.w hW L.tw L.zw fun a2 b2 S3 f3 l7 => ?_
              (repeat (first | wtm_at "vc0" | ((conv => whnf); wtm_at "vc0")))
              (conv => whnf)
              refine c_cmpZ (k := 200) (by omega) f3.bn f3.bd ?_
              (conv => whnf)
              have lm := l6.trans l7
              cases qw : decide (hw < 0) with
              | true =>
                refine brn_eq ((sg_of f3.pos f3.v).trans qw) (brn_t ?_)
                have FW : F 200 (val 0 100) 0 1 := ⟨by decide, Bd.lit (by decide), Bd.lit (by decide), (val_eq_iff (by decide) (by decide)).mpr rfl⟩
                rw [mx_neg qw] at h
                (conv => whnf)
                refine c_inGrains (k := 200) (by omega) FW hl9 fun i2 r2 _ => ?_
                obtain rfl := gr_of r2
                (conv => whnf)
                (repeat (first | wtm_at "vc0" | ((conv => whnf); wtm_at "vc0")))
                (conv => whnf)
                refine c_lkText (lm _ _ (le _ _ hm)) (lm _ _ (le _ _ hT)) L.j ?_
                (repeat (first | wtm_at "vc0" | ((conv => whnf); wtm_at "vc0")))
                (conv => whnf)
                refine c_lkText (lm _ _ (le _ _ hm)) (lm _ _ (le _ _ hT)) L.c ?_
                (repeat (first | wtm_at "vc0" | ((conv => whnf); wtm_at "vc0")))
                (conv => whnf)
                refine c_lkNumber (lm _ _ (le _ _ hm)) (lm _ _ (le _ _ hT)) L.m L.tm fun a5 b5 S4 f5 l9 => ?_
                (conv => whnf)
                refine ⟨_, l9 _ _ (lm _ _ hd), hck, ?_⟩
                (repeat (first | wtm_at "vc0" | ((conv => whnf); wtm_at "vc0")))
                (conv => whnf)
                refine k_Style fun x e he => ?_
                have lz := (le.trans lm).trans l9
                exact h x e a5 b5 _ (none_of_le lz he) f5 (lz.upd (none_of_le lz he)) Sto.set_same
              | false =>
                refine brn_eq ((sg_of f3.pos f3.v).trans qw) (brn_f ?_)
                have FW := f3
                rw [mx_pos qw] at h
                (conv => whnf)
                refine c_inGrains (k := 200) (by omega) FW hl9 fun i2 r2 _ => ?_
                obtain rfl := gr_of r2
                (conv => whnf)
                (repeat (first | wtm_at "vc0" | ((conv => whnf); wtm_at "vc0")))
                (conv => whnf)
                refine c_lkText (lm _ _ (le _ _ hm)) (lm _ _ (le _ _ hT)) L.j ?_
                (repeat (first | wtm_at "vc0" | ((conv => whnf); wtm_at "vc0")))
                (conv => whnf)
                refine c_lkText (lm _ _ (le _ _ hm)) (lm _ _ (le _ _ hT)) L.c ?_
                (repeat (first | wtm_at "vc0" | ((conv => whnf); wtm_at "vc0")))
                (conv => whnf)
                refine c_lkNumber (lm _ _ (le _ _ hm)) (lm _ _ (le _ _ hT)) L.m L.tm fun a5 b5 S4 f5 l9 => ?_
                (conv => whnf)
                refine ⟨_, l9 _ _ (lm _ _ hd), hck, ?_⟩
                (repeat (first | wtm_at "vc0" | ((conv => whnf); wtm_at "vc0")))
                (conv => whnf)
                refine k_Style fun x e he => ?_
                have lz := (le.trans lm).trans l9
                exact h x e a5 b5 _ (none_of_le lz he) f5 (lz.upd (none_of_le lz he)) Sto.set_same
            · have q : decide (h1.sum = 0) = false := q
              rw [if_neg (of_decide_eq_false q)] at ec
              (conv => whnf)
              refine brn_f ?_
              have le := l5
              have hd : S E = some (.list (intsD (cleanD h1))) := by rw [ec]; exact hE
              (repeat (first | wtm_at "vc0" | ((conv => whnf); wtm_at "vc0")))
              (conv => whnf)
              refine c_lkLength (le _ _ hm) (le _ _ hT) L.f un16 nm16 sl16 L.o hW L.to L.zo fun a1 b1 S2 f2 l6 => ?_
              (conv => whnf)
              refine c_inGrains (k := 200) (by omega) f2 hl9 fun i1 r1 _ => ?_
              obtain rfl := gr_of r1
              (repeat (first | wtm_at "vc0" | ((conv => whnf); wtm_at "vc0")))
              (conv => whnf)
              refine c_lkLength (l6 _ _ (le _ _ hm)) (l6 _ _ (le _ _ hT)) L.f un16 nm16 sl16 L.w hW L.tw L.zw fun a2 b2 S3 f3 l7 => ?_
              (repeat (first | wtm_at "vc0" | ((conv => whnf); wtm_at "vc0")))
              (conv => whnf)
              refine c_cmpZ (k := 200) (by omega) f3.bn f3.bd ?_
              (conv => whnf)
              have lm := l6.trans l7
              cases qw : decide (hw < 0) with
              | true =>
                refine brn_eq ((sg_of f3.pos f3.v).trans qw) (brn_t ?_)
                have FW : F 200 (val 0 100) 0 1 := ⟨by decide, Bd.lit (by decide), Bd.lit (by decide), (val_eq_iff (by decide) (by decide)).mpr rfl⟩
                rw [mx_neg qw] at h
                (conv => whnf)
                refine c_inGrains (k := 200) (by omega) FW hl9 fun i2 r2 _ => ?_
                obtain rfl := gr_of r2
                (conv => whnf)
                (repeat (first | wtm_at "vc0" | ((conv => whnf); wtm_at "vc0")))
                (conv => whnf)
                refine c_lkText (lm _ _ (le _ _ hm)) (lm _ _ (le _ _ hT)) L.j ?_
                (repeat (first | wtm_at "vc0" | ((conv => whnf); wtm_at "vc0")))
                (conv => whnf)
                refine c_lkText (lm _ _ (le _ _ hm)) (lm _ _ (le _ _ hT)) L.c ?_
                (repeat (first | wtm_at "vc0" | ((conv => whnf); wtm_at "vc0")))
                (conv => whnf)
                refine c_lkNumber (lm _ _ (le _ _ hm)) (lm _ _ (le _ _ hT)) L.m L.tm fun a5 b5 S4 f5 l9 => ?_
                (conv => whnf)
                refine ⟨_, l9 _ _ (lm _ _ hd), hck, ?_⟩
                (repeat (first | wtm_at "vc0" | ((conv => whnf); wtm_at "vc0")))
                (conv => whnf)
                refine k_Style fun x e he => ?_
                have lz := (le.trans lm).trans l9
                exact h x e a5 b5 _ (none_of_le lz he) f5 (lz.upd (none_of_le lz he)) Sto.set_same
              | false =>
                refine brn_eq ((sg_of f3.pos f3.v).trans qw) (brn_f ?_)
                have FW := f3
                rw [mx_pos qw] at h
                (conv => whnf)
                refine c_inGrains (k := 200) (by omega) FW hl9 fun i2 r2 _ => ?_
                obtain rfl := gr_of r2
                (conv => whnf)
                (repeat (first | wtm_at "vc0" | ((conv => whnf); wtm_at "vc0")))
                (conv => whnf)
                refine c_lkText (lm _ _ (le _ _ hm)) (lm _ _ (le _ _ hT)) L.j ?_
                (repeat (first | wtm_at "vc0" | ((conv => whnf); wtm_at "vc0")))
                (conv => whnf)
                refine c_lkText (lm _ _ (le _ _ hm)) (lm _ _ (le _ _ hT)) L.c ?_
                (repeat (first | wtm_at "vc0" | ((conv => whnf); wtm_at "vc0")))
                (conv => whnf)
                refine c_lkNumber (lm _ _ (le _ _ hm)) (lm _ _ (le _ _ hT)) L.m L.tm fun a5 b5 S4 f5 l9 => ?_
                (conv => whnf)
                refine ⟨_, l9 _ _ (lm _ _ hd), hck, ?_⟩
                (repeat (first | wtm_at "vc0" | ((conv => whnf); wtm_at "vc0")))
                (conv => whnf)
                refine k_Style fun x e he => ?_
                have lz := (le.trans lm).trans l9
                exact h x e a5 b5 _ (none_of_le lz he) f5 (lz.upd (none_of_le lz he)) Sto.set_same
      · rintro d ds' acc _ ⟨h1, h2, e1, rfl, e2, rfl⟩
        cases h2 with
        | nil => cases e1
        | cons i h2 =>
          obtain ⟨rfl, rfl⟩ := List.cons.inj e1
          (conv => whnf)
          refine brn_ (fun q => ?_) (fun q => ?_)
          · (conv => whnf)
            refine ⟨h1 ++ [i], h2, rfl, ?_, by rw [List.append_assoc]; exact e2, rfl⟩
            rw [intsD_snoc, negs_snoc, negs_pos q]
          · (conv => whnf)
            refine ⟨h1 ++ [i], h2, rfl, ?_, by rw [List.append_assoc]; exact e2, rfl⟩
            rw [negs_snoc, negs_neg q, List.append_nil]
  · rintro d ds' acc _ ⟨h1, h2, f2, rfl, e2, rfl⟩
    cases f2 with
    | cons f3 f2 =>
      (conv => whnf)
      refine c_inGrains (k := 200) (by omega) f3 hl9 fun i ri _ => ?_
      (conv => whnf)
      refine ⟨h1 ++ [_], _, f2, ?_, by rw [List.append_assoc]; exact e2, rfl⟩
      rw [intsD_snoc, List.map_append, gr_of ri]; rfl
end
end
section
set_option backward.match.sparseCases false
theorem gr_whole (n l : Int) : gr (100 * n) l = n * l := by
  unfold gr
  rw [Int.fdiv_eq_ediv_of_nonneg _ (by decide)]
  have e : 2 * (100 * n) * l + 100 = 100 + 200 * (n * l) := by
    rw [Int.mul_assoc, Int.mul_assoc, ← Int.mul_assoc 2 100]; omega
  rw [e, Int.add_mul_ediv_left _ _ (by decide)]
  omega
theorem det_not {u v z1 z2 z3 z4 : Int} (hv : 0 < v) (e : val u v = val z1 2 * val z4 2 - val z2 2 * val z3 2) : decide (u = 0) = decide (z1 * z4 - z2 * z3 = 0) := decide_eq_decide.mpr (det_zero hv e)
theorem half2 (z : Int) (h : Bd 20 z) : F 20 (val z 2) z 2 := ⟨by decide, h, Bd.lit (by decide), rfl⟩
theorem geo_of {a b c d h u v : Int} (hx : 0 < c - a) (hh : 1 ≤ h) (h1 : NRS ((d - b) * h) ((c - a) * (c - a) + (d - b) * (d - b)) u) (h2 : NRS (-(c - a) * h) ((c - a) * (c - a) + (d - b) * (d - b)) v) :
      ¬(c + u = a + u ∧ d + v = b + v) ∧ ¬(c + -u = c + u ∧ d + -v = d + v) ∧ ¬(a + -u = c + -u ∧ b + -v = d + -v) ∧ ¬(a + -u = a + u ∧ b + -v = b + v) ∧
      0 < 0 + ((a + -u) * (b + v) - (b + -v) * (a + u)) + ((a + u) * (d + v) - (b + v) * (c + u)) + ((c + u) * (d + -v) - (d + v) * (c + -u)) + ((c + -u) * (b + -v) - (d + -v) * (a + -u)) := by
  obtain ⟨k1, k2⟩ := quad hx hh h1 h2
  have e : 0 + ((a + -u) * (b + v) - (b + -v) * (a + u)) + ((a + u) * (d + v) - (b + v) * (c + u)) + ((c + u) * (d + -v) - (d + v) * (c + -u)) + ((c + -u) * (b + -v) - (d + -v) * (a + -u)) = 4 * ((d - b) * u - (c - a) * v) := by grind
  refine ⟨by omega, by omega, by omega, by omega, ?_⟩
  rw [e]; omega
theorem led_of {u v c x y lo g i : Int} (hl : 1 ≤ lo) (r : Rnd ((val u 2 * val x lo + val v 2 * val y lo + val c 2) * (g : Rat)) i) : i = LedI u v c x y lo g := rnd_led hl (by rw [val_one]; exact r)
theorem bsp {x l u : Int} (h1 : Bd 10 x) (h2 : Bd 10 l) (h3 : Bd 20 u) : Bd 100 (x * l + u) := (Bd.add (k := 20) (h1.mul h2) h3).le (by omega)
theorem bd_in {x : Int} (h1 : -1024 < x) (h2 : x < 1024) : Bd 10 x := by
  unfold Bd
  omega
theorem bd_r {x a b : Int} (h : a ≤ x ∧ x ≤ b) (ha : -1000 ≤ a := by decide) (hb : b ≤ 1000 := by decide) : Bd 10 x := by unfold Bd; omega
theorem s_pos {x y : Int} (h : 0 < x) : 0 < x * x + y * y := by
  have := Int.mul_pos h h
  have := sq_nn y
  omega
theorem nrs_b {k : Nat} {h v : Int} (bh : Bd k h) (h1 : 1 ≤ h) (s : (v.natAbs : Int) ≤ h) : Bd k v := bh.of_abs (by omega)
theorem sq_r (x y : Int) : y * y ≤ x * x + y * y := by have := sq_nn x; omega
theorem sq_l (x y : Int) : -x * -x ≤ x * x + y * y := by rw [Int.neg_mul_neg]; have := sq_nn y; omega
theorem ct_l {g r : Int} (hg : 1 ≤ g ∧ g ≤ 16) (r1 : 1 ≤ r) (r6 : r ≤ 6) : 1 ≤ g * r ∧ g * r ≤ 96 := by
  have a := Int.mul_le_mul hg.1 r1 (by decide) (by omega)
  have b := Int.mul_le_mul hg.2 r6 (by omega) (by decide)
  omega
theorem ct_n {n l : Int} (hn : 2 ≤ n ∧ n ≤ 16) (l1 : 1 ≤ l) (l2 : l ≤ 96) : 1 ≤ (n * l).fdiv 2 ∧ (n * l).fdiv 2 ≤ 1000 := by
  have a : 2 * 1 ≤ n * l := Int.mul_le_mul hn.1 l1 (by decide) (by omega)
  have b : n * l ≤ 16 * 96 := Int.mul_le_mul hn.2 l2 (by omega) (by decide)
  rw [Int.fdiv_eq_ediv_of_nonneg _ (by decide)]; omega
theorem ct_g {n l : Int} (hn : 2 ≤ n) : gr (if 100 * n > 0 then 100 * n else 0) l = n * l := by rw [if_pos (by omega)]; exact gr_whole n l
theorem ct_ne {x y z w : Int} (h : x < y) : ¬(x = y ∧ z = w) := by omega
theorem ct_nz {x y : Int} (h : x < y) : y - x ≠ 0 := by omega
section
variable {w : World} {D : Nat} {σ : Sto} {Q : Dat → Sto → Prop}
theorem c_contours {a m T SG mx mm : Addr} {fs : List (Str × Dat)} {hs hl g x1 y1 x2 y2 z1 z2 z3 z4 z5 z6 n : Int} {sw so sm sj : Str} (hS : σ SG = some (.list [.tup [.str "move", .tup [sp x1 1, sp y1 1]], .tup [.str "line", .tup [sp x2 1, sp y2 1]]]))
    (hmm : σ mm = some (mxNs (sp z1 2) (sp z2 2) (sp z3 2) (sp z4 2) (sp z5 2) (sp z6 2))) (b1 : Bd 20 z1) (b2 : Bd 20 z2) (b3 : Bd 20 z3) (b4 : Bd 20 z4) (b5 : Bd 20 z5) (b6 : Bd 20 z6) (hz : (z1 * z4 - z2 * z3).natAbs ≤ 128)
    (hm : σ m = some (lkNs T)) (hT : σ T = some (.dict fs)) (L : LookW fs 1 (100 * n) hs hl [] sw so sm "none" sj "butt") (hn : 2 ≤ n ∧ n ≤ 16) (hg : 1 ≤ g ∧ g ≤ 16) (c1 : Bd 10 x1) (c2 : Bd 10 y1) (c3 : Bd 10 x2) (c4 : Bd 10 y2) (hx : x1 < x2)
    (h0 : z1 * z4 - z2 * z3 = 0 → ∀ E, σ E = none → Q (.val (.ref E)) (σ.set E (.list [])))
    (h : ∀ r l u v E σ', ¬(z1 * z4 - z2 * z3 = 0) → StrOk z1 z2 z3 z4 r → l = g * r →
      NRS ((y2 * l - y1 * l) * (n * l).fdiv 2) ((x2 * l - x1 * l) * (x2 * l - x1 * l) + (y2 * l - y1 * l) * (y2 * l - y1 * l)) u → NRS (-(x2 * l - x1 * l) * (n * l).fdiv 2) ((x2 * l - x1 * l) * (x2 * l - x1 * l) + (y2 * l - y1 * l) * (y2 * l - y1 * l)) v →
      σ E = none → SLe σ σ' → σ' E = some (.list [.tup [.tup [sp (LedI z1 z3 z5 (x1 * l + u) (y1 * l + v) l g) (LedI z2 z4 z6 (x1 * l + u) (y1 * l + v) l g), sp (LedI z1 z3 z5 (x2 * l + u) (y2 * l + v) l g) (LedI z2 z4 z6 (x2 * l + u) (y2 * l + v) l g),
        sp (LedI z1 z3 z5 (x2 * l + -u) (y2 * l + -v) l g) (LedI z2 z4 z6 (x2 * l + -u) (y2 * l + -v) l g), sp (LedI z1 z3 z5 (x1 * l + -u) (y1 * l + -v) l g) (LedI z2 z4 z6 (x1 * l + -u) (y1 * l + -v) l g)], .val (.bool true)]]) → Q (.val (.ref E)) σ') :
    CallP w (D + 30) (.ref 1019) [.val (.ref SG), .inst mx 599 mm, .inst a 1133 m, sp 1 1, .int g] σ Q := by
  (refine CodeP.call ?_; (refine' enterW (n := 60) (vars0 := [("segments", .val (.ref SG)), ("matrix", .inst mx 599 mm), ("look", .inst a 1133 m), ("whole", sp 1 1), ("grain", .int g)]) ?ho ?hc ?hb ?hs ?hh; (case ho => (show List.lookup _ (Mine.frame.heap_1 (World.params _)) = _; k_is)); (case hc => (show codeIn (Mine.frame.heap_1 (World.params _)) _ _ = true; k_is)); (case hb => exact bind5 fun _ _ _ _ _ => by kernel_rfl!); (case hs => exact rfl)))
  (repeat (first | wtm_at "vc0" | ((conv => whnf); wtm_at "vc0")))
  (conv => whnf)
  refine c_det (j := 20) (by decide) hmm (half2 z1 b1) (half2 z2 b2) (half2 z3 b3) (half2 z4 b4) fun p q fp => ?_
  (conv => whnf)
  cases qz : decide (z1 * z4 - z2 * z3 = 0) with
  | true =>
    refine brn_eq ((det_not fp.pos fp.v).trans qz) (brn_t ?_)
    (conv => whnf)
    intro E eE
    exact h0 (of_decide_eq_true qz) E eE
  | false =>
    refine brn_eq ((det_not fp.pos fp.v).trans qz) (brn_f ?_)
    have qz := of_decide_eq_false qz
    (repeat (first | wtm_at "vc0" | ((conv => whnf); wtm_at "vc0")))
    (conv => whnf)
    refine c_stretch (j := 20) (by decide) hmm (half2 z1 b1) (half2 z2 b2) (half2 z3 b3) (half2 z4 b4) fun p2 q2 r f2 hr => ?_
    have hr := str_ok f2.pos f2.v hr
    generalize 1 + r = r at hr ⊢
    obtain ⟨r1, r6⟩ := hr.le hz
    (conv => whnf)
    obtain ⟨lp, l96⟩ := ct_l hg r1 r6
    refine And.intro (Bd.mulOk (j := 10) (k := 10) (bd_r hg) (bd_r ⟨r1, r6⟩) (by decide)) ?_
    have h := fun u v E σ' => h r (g * r) u v E σ' qz hr rfl
    generalize el : g * r = l at lp l96 h ⊢
    have bl : Bd 10 l := bd_r ⟨lp, l96⟩
    (conv => whnf)
    refine c_identity fun xi mi hmi => ?_
    (repeat (first | wtm_at "vc0" | ((conv => whnf); wtm_at "vc0")))
    (conv => whnf)
    have nx : x1 * l < x2 * l := Int.mul_lt_mul_of_pos_right hx lp
    have lo : SLe σ (σ.set mi (mxNs (sp 1 1) (sp 0 1) (sp 0 1) (sp 1 1) (sp 0 1) (sp 0 1))) := SLe.upd SLe.rfl hmi
    have hmi2 : (σ.set mi (mxNs (sp 1 1) (sp 0 1) (sp 0 1) (sp 1 1) (sp 0 1) (sp 0 1))) mi = _ := Sto.set_same
    generalize (σ.set mi (mxNs (sp 1 1) (sp 0 1) (sp 0 1) (sp 1 1) (sp 0 1) (sp 0 1))) = S0 at lo hmi2 ⊢
    refine c_flattened (k := 10) (by decide) (lo _ _ hS) hmi2 bl c1 c2 c3 c4 (ct_ne nx) fun C S1 lC fC hC => ?_
    (repeat (first | wtm_at "vc0" | ((conv => whnf); wtm_at "vc0")))
    (conv => whnf)
    refine c_style (lC _ _ (lo _ _ hm)) (lC _ _ (lo _ _ hT)) L (Bd.lit (by decide)) (bl.le (by decide)) fun x e p q S2 he _ l2 hst => ?_
    (repeat (first | wtm_at "vc0" | ((conv => whnf); wtm_at "vc0")))
    (conv => whnf)
    have eh : gr (if 100 * n > 0 then 100 * n else 0) l = n * l := ct_g hn.1
    rw [eh] at hst
    have hh := ct_n hn lp l96
    have bh : Bd 20 ((n * l).fdiv 2) := (bd_r hh).le (by decide)
    have hh := hh.1
    refine c_stroked (k := 20) (by omega) (l2 _ _ hC) hst lp (bl.le (by decide)) (c1.mul bl) (c2.mul bl) (c3.mul bl) (c4.mul bl) bh hh (ct_nz nx) (fun u v => geo_of (Int.sub_pos_of_lt nx) hh) fun u v E S3 hu hv l3 fE hE => ?_
    have lz : SLe σ S3 := ((lo.trans lC).trans l2).trans l3
    (repeat (first | wtm_at "vc0" | ((conv => whnf); wtm_at "vc0")))
    (conv => whnf)
    have fE0 : σ E = none := none_of_le ((lo.trans lC).trans l2) fE
    have hmm3 : (S3.del E) mm = _ := (Sto.del_ne (neS fE0 hmm)).trans (lz _ _ hmm)
    have hS0 : 0 < (x2 * l - x1 * l) * (x2 * l - x1 * l) + (y2 * l - y1 * l) * (y2 * l - y1 * l) := s_pos (Int.sub_pos_of_lt nx)
    have bu : Bd 20 u := nrs_b bh hh (nrs_small hS0 (sq_r _ _) hh hu)
    have bv : Bd 20 v := nrs_b bh hh (nrs_small hS0 (sq_l _ _) hh hv)
    have bg : Bd 60 g := (bd_r hg).le (by decide)
    refine c_led (j := 20) (by decide) hmm3 (half2 z1 b1) (half2 z2 b2) (half2 z3 b3) (half2 z4 b4) (half2 z5 b5) (half2 z6 b6) (bsp c1 bl bu) (bsp c2 bl bv) (bl.le (by decide)) lp bg fun p q rp rq => ?_
    obtain rfl := led_of lp rp
    obtain rfl := led_of lp rq
    (repeat (first | wtm_at "vc0" | ((conv => whnf); wtm_at "vc0")))
    (conv => whnf)
    refine c_led (j := 20) (by decide) hmm3 (half2 z1 b1) (half2 z2 b2) (half2 z3 b3) (half2 z4 b4) (half2 z5 b5) (half2 z6 b6) (bsp c3 bl bu) (bsp c4 bl bv) (bl.le (by decide)) lp bg fun p q rp rq => ?_
    obtain rfl := led_of lp rp
    obtain rfl := led_of lp rq
    (repeat (first | wtm_at "vc0" | ((conv => whnf); wtm_at "vc0")))
    (conv => whnf)
    refine c_led (j := 20) (by decide) hmm3 (half2 z1 b1) (half2 z2 b2) (half2 z3 b3) (half2 z4 b4) (half2 z5 b5) (half2 z6 b6) (bsp c3 bl bu.neg) (bsp c4 bl bv.neg) (bl.le (by decide)) lp bg fun p q rp rq => ?_
    obtain rfl := led_of lp rp
    obtain rfl := led_of lp rq
    (repeat (first | wtm_at "vc0" | ((conv => whnf); wtm_at "vc0")))
    (conv => whnf)
    refine c_led (j := 20) (by decide) hmm3 (half2 z1 b1) (half2 z2 b2) (half2 z3 b3) (half2 z4 b4) (half2 z5 b5) (half2 z6 b6) (bsp c1 bl bu.neg) (bsp c2 bl bv.neg) (bl.le (by decide)) lp bg fun p q rp rq => ?_
    obtain rfl := led_of lp rp
    obtain rfl := led_of lp rq
    (repeat (first | wtm_at "vc0" | ((conv => whnf); wtm_at "vc0")))
    (conv => whnf)
    rename_i N hN R hR
    have lz2 := fun (x : MO) => lz.trans (SLe.back hE (SLe.upd (a := N) (x := x) SLe.rfl hN))
    exact h u v R _ hu hv (none_of_le (lz2 _) hR) (SLe.upd (lz2 _) (none_of_le (lz2 _) hR)) Sto.set_same
end
end
section
set_option backward.match.sparseCases false
/-- a source of numbers -/
structure Src (σ : Sto) (S : Addr) : Prop where
  at_ : ∃ a b : Int, 0 ≤ a ∧ 0 ≤ b ∧ b < 2147483647 ∧ σ S = some (.list [.int a, .int b])
theorem SLx.rfl {S : Addr} {σ : Sto} : SLx S σ σ := fun _ _ _ h => h
theorem SLx.trans {S : Addr} {σ σ' σ'' : Sto} (h : SLx S σ σ') (h' : SLx S σ' σ'') : SLx S σ σ'' := fun a m n e => h' a m n (h a m n e)
theorem SLx.of {S : Addr} {σ σ' : Sto} (h : SLe σ σ') : SLx S σ σ' := fun a m _ e => h a m e
theorem SLx.set {S : Addr} {σ : Sto} {x : MO} : SLx S σ (σ.set S x) := fun _ _ n e => (Sto.set_ne n).trans e
theorem fmod_in {a t : Int} (h : 0 < t) : 0 ≤ a.fmod t ∧ a.fmod t < t := ⟨Int.fmod_nonneg_of_pos _ h, Int.fmod_lt_of_pos _ h⟩
theorem idx_i {l : List Dat} {i : Int} {K : Dat → Prop} (h0 : 0 ≤ i) (h1 : i < l.length) (h2 : l.length ≤ 1000) (h : ∀ d, d ∈ l → l[i.toNat]? = some d → K d) : idxD l i K := by
  obtain ⟨n, rfl⟩ := Int.eq_ofNat_of_zero_le h0
  have hn : n < l.length := by omega
  have e : l[n]? = some l[n] := List.getElem?_eq_getElem hn
  have e1 : nth l n = some l[n] := nth_is.trans e
  have e2 : Nat.blt n 9223372036854775808 = true := Nat.blt_eq.mpr (by omega)
  show tru (Nat.blt n 9223372036854775808) (som (nth l n) K)
  rw [e2, e1]
  exact h _ (List.getElem_mem hn) e
section
variable {w : World} {D : Nat} {σ : Sto} {Q : Dat → Sto → Prop}
theorem c_take {S : Addr} {t : Int} (hS : Src σ S) (h0 : 0 < t) (h1 : t ≤ 1000) (h : ∀ i σ', 0 ≤ i → i < t → Src σ' S → SLx S σ σ' → Q (.int i) σ') : CallP w (D + 2) (.ref 1151) [.val (.ref S), .int t] σ Q := by
  obtain ⟨a, b, a0, b0, b1, hS⟩ := hS.at_
  have bt : Bd 10 t := bd_in (by omega) (by omega)
  have bb : Bd 31 b := by unfold Bd; omega
  (refine CodeP.call ?_; (refine' enterW (n := 60) (vars0 := [("source", .val (.ref S)), ("top", .int t)]) ?ho ?hc ?hb ?hs ?hh; (case ho => (show List.lookup _ (Mine.frame.heap_1 (World.params _)) = _; k_is)); (case hc => (show codeIn (Mine.frame.heap_1 (World.params _)) _ _ = true; k_is)); (case hb => exact bind2 fun _ _ => by kernel_rfl!); (case hs => exact rfl)))
  (repeat (first | wtm_at "vc0" | ((conv => whnf); wtm_at "vc0")))
  (conv => whnf)
  refine brn_ (fun q => ?_) (fun q => ?_)
  · (repeat (first | wtm_at "vc0" | ((conv => whnf); wtm_at "vc0")))
    refine And.intro ⟨by omega, bt.py (by omega)⟩ ?_
    (conv => whnf)
    refine ⟨_, hS, by omega, by simp, by simp, ?_⟩
    (conv => whnf)
    have q := of_decide_eq_true q
    obtain ⟨m1, m2⟩ := fmod_in (a := a) h0
    refine h _ _ m1 m2 ⟨a.fdiv t, b, ?_, b0, b1, Sto.set_same⟩ SLx.set
    rw [Int.fdiv_eq_ediv_of_nonneg _ (by omega)]; exact Int.ediv_nonneg a0 (by omega)
  · obtain ⟨m1, m2⟩ := fmod_in (a := b * 39373 + 7) (t := 2147483647) (by decide)
    have bx : Bd 31 ((b * 39373 + 7).fmod 2147483647) := by unfold Bd; omega
    (repeat (first | wtm_at "vc0" | ((conv => whnf); wtm_at "vc0")))
    obtain ⟨n1, n2⟩ := fmod_in (a := (((b * 39373 + 7).fmod 2147483647 * (b * 39373 + 7).fmod 2147483647).fmod 2147483629).fdiv 32) h0
    exact h _ _ n1 n2 ⟨a, _, a0, m1, m2, Sto.set_same⟩ SLx.set
theorem c_one {S L : Addr} {ds : List Dat} (hS : Src σ S) (hL : σ L = some (.list ds)) (hn : L ≠ S) (h0 : 0 < ds.length) (h1 : ds.length ≤ 100) (h : ∀ d σ', d ∈ ds → Src σ' S → SLx S σ σ' → Q d σ') : CallP w (D + 4) (.ref 1158) [.val (.ref S), .val (.ref L)] σ Q := by
  (refine CodeP.call ?_; (refine' enterW (n := 60) (vars0 := [("source", .val (.ref S)), ("things", .val (.ref L))]) ?ho ?hc ?hb ?hs ?hh; (case ho => (show List.lookup _ (Mine.frame.heap_1 (World.params _)) = _; k_is)); (case hc => (show codeIn (Mine.frame.heap_1 (World.params _)) _ _ = true; k_is)); (case hb => exact bind2 fun _ _ => by kernel_rfl!); (case hs => exact rfl)))
  (repeat (first | wtm_at "vc0" | ((conv => whnf); wtm_at "vc0")))
  refine And.intro (Nat.ble_eq.mpr (by omega)) ?_
  (conv => whnf)
  refine c_take (t := (ds.length : Int)) hS (by omega) (by omega) fun i σ' i0 i1 hS' le => ?_
  have hL' := le _ _ hn hL
  (repeat (first | wtm_at "vc0" | ((conv => whnf); wtm_at "vc0")))
  refine idx_i i0 i1 (by omega) fun d hd _ => ?_
  exact h d σ' hd hS' le
theorem c_grains {a l : Int} {k : Nat} (hk : k ≤ 1000) (h1 : Bd k a) (h2 : Bd k l) (h : Q (.int (gr a l)) σ) : CallP w (D + 2) (.ref 1189) [.int a, .int l] σ Q := by
  (refine CodeP.call ?_; (refine' enterW (n := 60) (vars0 := [("hundredths", .int a), ("local", .int l)]) ?ho ?hc ?hb ?hs ?hh; (case ho => (show List.lookup _ (Mine.frame.heap_1 (World.params _)) = _; k_is)); (case hc => (show codeIn (Mine.frame.heap_1 (World.params _)) _ _ = true; k_is)); (case hb => exact bind2 fun _ _ => by kernel_rfl!); (case hs => exact rfl)))
  (repeat (first | wtm_at "vc0" | ((conv => whnf); wtm_at "vc0")))
  exact h
end
end
section
set_option backward.match.sparseCases false
/-- a number's text found out -/
noncomputable def numB (x : Str) (n : Int) : Bool :=
  let l := x.cps.toList
  let sg := match l with | [] => false | c :: _ => Nat.beq c 45
  let i := match sg with | true => 1 | false => 0
  let dg := fun c => Nat.ble 48 c && Nat.ble c 57
  let d := (l.drop i).takeWhile dg
  let j := i + d.length
  let f := (l.drop (j + 1)).takeWhile dg
  numW x n sg i j ⟨d.toArray⟩ || numP x n sg i j (j + 1 + f.length) ⟨d.toArray⟩ ⟨f.toArray⟩
theorem numB_ok {x : Str} {n : Int} (h : numB x n = true) : NumT x n := by
  unfold numB at h
  rcases Bool.or_eq_true_iff.mp h with h | h
  · exact .inl ⟨_, _, _, _, h⟩
  · exact .inr ⟨_, _, _, _, _, _, h⟩
noncomputable def Cln (c : Nat) : Bool := c == 45 || c == 46 || c == 37 || (decide (48 ≤ c) && decide (c ≤ 57))
noncomputable def clnB (x : Str) : Bool := x.cps.toList.all Cln && !sEq x "" && Nat.ble x.length 5 && Nat.ble (Txt.slice x none (some (-1))).length 1000
/-- the texts of the menu -/
noncomputable def menuB (x : Str) (n : Int) : Bool := numB x n && unB x false && clnB x
noncomputable def pctB (p : Int) : Bool := let x := Str.ofString (toString p) ++ "%"; numB (Txt.strip (Txt.slice x none (some (-1)))) (100 * p) && unB x true && clnB x
noncomputable def menuK (k : Int) : Bool := menuB (Str.ofString (toString k)) (100 * k) && (decide (k < 0) || (menuB (Str.ofString (toString k) ++ "." ++ Str.ofString (toString (50 : Int))) (100 * k + 50) && menuB (Str.ofString (toString k) ++ "." ++ Str.ofString (toString (25 : Int))) (100 * k + 25)))
theorem menu_all : (List.range 18).all (fun n => menuK ((n : Int) - 5)) = true := by decide +kernel
theorem pct_all : ([0, 50, 100, 150] : List Int).all pctB = true := by decide +kernel
theorem menu_of {k : Int} (h1 : -5 ≤ k) (h2 : k ≤ 12) : menuB (Str.ofString (toString k)) (100 * k) = true ∧ (¬k < 0 → menuB (Str.ofString (toString k) ++ "." ++ Str.ofString (toString (50 : Int))) (100 * k + 50) = true ∧ menuB (Str.ofString (toString k) ++ "." ++ Str.ofString (toString (25 : Int))) (100 * k + 25) = true) := by
  have e : ((k + 5).toNat : Int) - 5 = k := by omega
  have h := List.all_eq_true.mp menu_all (k + 5).toNat (List.mem_range.mpr (by omega))
  rw [e] at h
  unfold menuK at h
  rw [Bool.and_eq_true, Bool.or_eq_true, Bool.and_eq_true] at h
  exact ⟨h.1, fun n => h.2.resolve_left fun e => n (of_decide_eq_true e)⟩
/-- a length's text of the menu -/
structure LenM (W : Int) (x : Str) (h : Int) : Prop where
  t : LenT W x h
  c : clnB x = true
theorem LenM.of {W : Int} {x : Str} {h : Int} (m : menuB x h = true) : LenM W x h := by
  unfold menuB at m
  rw [Bool.and_eq_true, Bool.and_eq_true] at m
  exact ⟨.plain (unB_ok m.1.2) (numB_ok m.1.1), m.2⟩
theorem LenM.pct {W p : Int} (m : p ∈ ([0, 50, 100, 150] : List Int)) : LenM W (Str.ofString (toString p) ++ "%") (p * W) := by
  have m := List.all_eq_true.mp pct_all p m
  unfold pctB at m
  rw [Bool.and_eq_true, Bool.and_eq_true] at m
  exact ⟨.inr ⟨p, unB_ok m.1.2, numB_ok m.1.1, rfl⟩, m.2⟩
theorem bd_20 {x : Int} (h1 : -100000 < x) (h2 : x < 100000) : Bd 20 x := by
  unfold Bd
  omega
theorem len_app (x y : Str) : (x ++ y).length = x.length + y.length := by
  show (x ++ y).cps.size = _
  rw [Str.cps_append, Array.size_append]; rfl
theorem menu_len {x : Str} {n : Int} (m : menuB x n = true) : x.length ≤ 5 := by
  unfold menuB clnB at m
  simp only [Bool.and_eq_true] at m
  exact Nat.ble_eq.mp m.2.1.2
theorem cn1 {a i : Int} (h0 : -5 ≤ a) (h1 : a ≤ 1) (i0 : 0 ≤ i) (i1 : i < 12) : -5 ≤ a + i ∧ a + i ≤ 12 := by omega
theorem cn2 {k : Int} (h0 : -5 ≤ k) (h1 : k ≤ 12) : Bd 20 (100 * k) ∧ Bd 20 k ∧ Bd 20 (100 * k + 50) ∧ Bd 20 (100 * k + 25) := ⟨bd_20 (by omega) (by omega), bd_20 (by omega) (by omega), bd_20 (by omega) (by omega), bd_20 (by omega) (by omega)⟩
theorem cn3 {x y : Nat} (h : x ≤ 5) (k : y ≤ 1) : x + y ≤ 1000000 := by omega
section
variable {w : World} {D : Nat} {σ : Sto} {Q : Dat → Sto → Prop}
theorem Src.new {S L : Addr} {x : MO} (h : Src σ S) (e : σ L = none) : Src (σ.set L x) S ∧ L ≠ S := by
  obtain ⟨a, b, a0, b0, b1, hS⟩ := h.at_
  have n : S ≠ L := neS e hS
  exact ⟨⟨a, b, a0, b0, b1, (Sto.set_ne n).trans hS⟩, Ne.symm n⟩
theorem SLx.new {S L : Addr} {x : MO} (e : σ L = none) : SLx S σ (σ.set L x) := .of (SLe.upd SLe.rfl e)
theorem c_oneOf {S L : Addr} {ds : List Dat} (hS : Src σ S) (hL : σ L = none) (h0 : 0 < ds.length) (h1 : ds.length ≤ 100) (h : ∀ d σ', d ∈ ds → Src σ' S → SLx S σ σ' → Q d σ') : CallP w (D + 4) (.ref 1158) [.val (.ref S), .val (.ref L)] (σ.set L (.list ds)) Q :=
  c_one (hS.new hL).1 Sto.set_same (hS.new (x := .held) hL).2 h0 h1 fun d σ' hd hs l => h d σ' hd hs ((SLx.new hL).trans l)
theorem c_number {S : Addr} {a : Int} (hS : Src σ S) (h0 : -5 ≤ a) (h1 : a ≤ 1) (h : ∀ x n σ', menuB x n = true → Bd 20 n → Src σ' S → SLx S σ σ' → Q (.tup [.str x, .int n]) σ') : CallP w (D + 6) (.ref 1175) [.val (.ref S), .int a] σ Q := by
  (refine CodeP.call ?_; (refine' enterW (n := 60) (vars0 := [("source", .val (.ref S)), ("least_now", .int a)]) ?ho ?hc ?hb ?hs ?hh; (case ho => (show List.lookup _ (Mine.frame.heap_1 (World.params _)) = _; k_is)); (case hc => (show codeIn (Mine.frame.heap_1 (World.params _)) _ _ = true; k_is)); (case hb => exact bind2 fun _ _ => by kernel_rfl!); (case hs => exact rfl)))
  (repeat (first | wtm_at "vc0" | ((conv => whnf); wtm_at "vc0")))
  (conv => whnf)
  refine c_take hS (by decide) (by decide) fun i σ1 i0 i1 hS1 l1 => ?_
  (repeat (first | wtm_at "vc0" | ((conv => whnf); wtm_at "vc0")))
  rename_i L hL
  (conv => whnf)
  refine c_oneOf hS1 hL (by decide) (by decide) fun d σ2 hd hS2 l2 => ?_
  have lx := l1.trans l2
  obtain ⟨k0, k1⟩ := cn1 h0 h1 i0 i1
  obtain ⟨w1', w2', w3', w4'⟩ := cn2 k0 k1
  obtain ⟨mw, mr⟩ := menu_of (k := a + i) k0 k1
  have zero : Q (.tup [.str (Str.ofString (toString (a + i))), .int (100 * (a + i))]) σ2 := h _ _ σ2 mw w1' hS2 lx
  have bk : Bd 20 (a + i) := w2'
  have d4 : d = .int 0 ∨ d = .int 50 ∨ d = .int 25 := by
    simp only [List.mem_cons, List.not_mem_nil, or_false] at hd
    rcases hd with e | e | e | e <;> simp [e]
  have hz := menu_len mw
  rcases d4 with rfl | rfl | rfl
  · (repeat (first | wtm_at "vc0" | ((conv => whnf); wtm_at "vc0")))
    (conv => whnf)
    refine brn_ (fun q => ?_) (fun q => ?_)
    · (repeat (first | wtm_at "vc0" | ((conv => whnf); wtm_at "vc0")))
      exact zero
    · (repeat (first | wtm_at "vc0" | ((conv => whnf); wtm_at "vc0")))
      exact zero
  · (repeat (first | wtm_at "vc0" | ((conv => whnf); wtm_at "vc0")))
    (conv => whnf)
    refine brn_ (fun q => ?_) (fun q => ?_)
    · (repeat (first | wtm_at "vc0" | ((conv => whnf); wtm_at "vc0")))
      exact zero
    · (repeat (first | wtm_at "vc0" | ((conv => whnf); wtm_at "vc0")))
      (conv => whnf)
      refine And.intro (cn3 (y := 1) hz (by decide)) ?_
      (repeat (first | wtm_at "vc0" | ((conv => whnf); wtm_at "vc0")))
      (conv => whnf)
      have hy := menu_len (mr (of_decide_eq_false q)).1
      rw [len_app] at hy
      refine And.intro (Nat.le_trans hy (by decide)) ?_
      (repeat (first | wtm_at "vc0" | ((conv => whnf); wtm_at "vc0")))
      exact h _ _ σ2 (mr (of_decide_eq_false q)).1 w3' hS2 lx
  · (repeat (first | wtm_at "vc0" | ((conv => whnf); wtm_at "vc0")))
    (conv => whnf)
    refine brn_ (fun q => ?_) (fun q => ?_)
    · (repeat (first | wtm_at "vc0" | ((conv => whnf); wtm_at "vc0")))
      exact zero
    · (repeat (first | wtm_at "vc0" | ((conv => whnf); wtm_at "vc0")))
      (conv => whnf)
      refine And.intro (cn3 (y := 1) hz (by decide)) ?_
      (repeat (first | wtm_at "vc0" | ((conv => whnf); wtm_at "vc0")))
      (conv => whnf)
      have hy := menu_len (mr (of_decide_eq_false q)).2
      rw [len_app] at hy
      refine And.intro (Nat.le_trans hy (by decide)) ?_
      (repeat (first | wtm_at "vc0" | ((conv => whnf); wtm_at "vc0")))
      exact h _ _ σ2 (mr (of_decide_eq_false q)).2 w4' hS2 lx
end
end
section
set_option backward.match.sparseCases false
theorem clnB_len {x : Str} (m : clnB x = true) : x.length ≤ 5 := by
  unfold clnB at m
  simp only [Bool.and_eq_true] at m
  exact Nat.ble_eq.mp m.1.2
section
variable {w : World} {D : Nat} {σ : Sto} {Q : Dat → Sto → Prop}
theorem c_lawLen {S : Addr} {a W : Int} (hS : Src σ S) (h0 : -5 ≤ a) (h1 : a ≤ 1) (w0 : 1 ≤ W) (w1 : W ≤ 30) (h : ∀ x n σ', LenM W x n → Bd 20 n → Src σ' S → SLx S σ σ' → Q (.tup [.str x, .int n]) σ') : CallP w (D + 8) (.ref 1182) [.val (.ref S), .int W, .int a] σ Q := by
  (refine CodeP.call ?_; (refine' enterW (n := 60) (vars0 := [("source", .val (.ref S)), ("whole", .int W), ("least_now", .int a)]) ?ho ?hc ?hb ?hs ?hh; (case ho => (show List.lookup _ (Mine.frame.heap_1 (World.params _)) = _; k_is)); (case hc => (show codeIn (Mine.frame.heap_1 (World.params _)) _ _ = true; k_is)); (case hb => exact bind3 fun _ _ _ => by kernel_rfl!); (case hs => exact rfl)))
  (repeat (first | wtm_at "vc0" | ((conv => whnf); wtm_at "vc0")))
  (conv => whnf)
  refine c_take hS (by omega) (by omega) fun i σ1 i0 i1 hS1 l1 => ?_
  (repeat (first | wtm_at "vc0" | ((conv => whnf); wtm_at "vc0")))
  (conv => whnf)
  refine brn_ (fun q => ?_) (fun q => ?_)
  · (repeat (first | wtm_at "vc0" | ((conv => whnf); wtm_at "vc0")))
    (conv => whnf)
    exact c_number hS1 h0 h1 fun x n σ2 hm hb hS2 l2 => h x n σ2 (.of hm) hb hS2 (l1.trans l2)
  · (repeat (first | wtm_at "vc0" | ((conv => whnf); wtm_at "vc0")))
    rename_i L hL
    (conv => whnf)
    refine c_oneOf hS1 hL (by decide) (by decide) fun d σ2 hd hS2 l2 => ?_
    have d4 : ∃ p, d = .int p ∧ p ∈ ([0, 50, 100, 150] : List Int) ∧ 0 ≤ p ∧ p ≤ 150 := by
      simp only [List.mem_cons, List.not_mem_nil, or_false] at hd
      rcases hd with e | e | e | e
      · exact ⟨_, e, by decide, by decide, by decide⟩
      · exact ⟨_, e, by decide, by decide, by decide⟩
      · exact ⟨_, e, by decide, by decide, by decide⟩
      · exact ⟨_, e, by decide, by decide, by decide⟩
    obtain ⟨p, rfl, pm, p0, p1⟩ := d4
    have m := LenM.pct (W := W) pm
    have hz := clnB_len m.c
    rw [len_app] at hz
    have bp : Bd 10 p := bd_in (by omega) (by omega)
    have bW : Bd 10 W := bd_in (by omega) (by omega)
    (repeat (first | wtm_at "vc0" | ((conv => whnf); wtm_at "vc0")))
    exact h _ _ σ2 m (bp.mul bW) hS2 (l1.trans l2)
end
end
section
set_option backward.match.sparseCases false
noncomputable def prD (ps : List (Str × Int)) : List Dat := ps.map fun p => .tup [.str p.1, .int p.2]
theorem prD_snoc (ps : List (Str × Int)) (x : Str) (n : Int) : prD ps ++ [.tup [.str x, .int n]] = prD (ps ++ [(x, n)]) := by unfold prD; rw [List.map_append]; rfl
noncomputable def MenuP (W : Int) (ps : List (Str × Int)) : Prop := ∀ p ∈ ps, LenM W p.1 p.2 ∧ Bd 20 p.2
theorem MenuP.snoc {W : Int} {ps : List (Str × Int)} {x : Str} {n : Int} (h : MenuP W ps) (m : LenM W x n) (b : Bd 20 n) : MenuP W (ps ++ [(x, n)]) := fun p hp => by
  rcases List.mem_append.mp hp with q | q
  · exact h p q
  · obtain rfl := List.mem_singleton.mp q
    exact ⟨m, b⟩
section
open Builtin Builtin.Str StrLaws KWd
noncomputable def subC (k : Nat) : Nat := if k = 44 then 32 else k
theorem subC_free : ∀ l : List Nat, 44 ∉ l → l.map subC = l
  | [], _ => rfl
  | k :: r, h => by
    have h1 : k ≠ 44 := fun e => h (e ▸ List.mem_cons_self)
    rw [List.map_cons, subC_free r (fun m => h (List.mem_cons_of_mem _ m))]
    unfold subC; rw [if_neg h1]
theorem sub_join : ∀ parts : List Str, (∀ p ∈ parts, 44 ∉ p.cps.toList) → (Str.join ⟨#[44]⟩ parts).cps.toList.map subC = (Str.join ⟨#[32]⟩ parts).cps.toList
  | [], _ => rfl
  | [p], h => subC_free _ (h p (List.mem_singleton.mpr rfl))
  | p :: q :: r, h => by
    have ih := sub_join (q :: r) fun a ha => h a (List.mem_cons_of_mem _ ha)
    show (p ++ ⟨#[44]⟩ ++ Str.join ⟨#[44]⟩ (q :: r)).cps.toList.map subC = (p ++ ⟨#[32]⟩ ++ Str.join ⟨#[32]⟩ (q :: r)).cps.toList
    simp only [Str.cps_append, Array.toList_append, List.map_append]
    rw [ih, subC_free _ (h p (List.mem_cons_self ..))]
    rfl
theorem rep_cps (x : Str) : (Txt.replace x ⟨#[44]⟩ ⟨#[32]⟩).cps.toList = x.cps.toList.map subC := by
  rw [replace_one]
  have := sub_join (Txt.split x ⟨#[44]⟩) (split_free x 44)
  rw [join_split] at this
  exact this.symm
theorem cln_all : (List.range 58).all (fun c => !Cln c || (!Unicode.isSpace c && Nat.beq (subC c) c)) = true := by decide +kernel
theorem Cln.lt {c : Nat} (h : Cln c = true) : c < 58 := by
  unfold Cln at h
  simp only [Bool.or_eq_true, Bool.and_eq_true, decide_eq_true_eq, beq_iff_eq] at h
  rcases h with ((rfl | rfl) | rfl) | h
  · decide
  · decide
  · decide
  · exact Nat.lt_succ_of_le h.2
theorem Cln.both {c : Nat} (h : Cln c = true) : Unicode.isSpace c = false ∧ subC c = c := by
  have a := List.all_eq_true.mp cln_all c (List.mem_range.mpr (Cln.lt h))
  rw [h] at a
  cases e : Unicode.isSpace c with
  | true => rw [e] at a; cases a
  | false => rw [e] at a; exact ⟨rfl, Nat.eq_of_beq_eq_true a⟩
theorem Cln.space {c : Nat} (h : Cln c = true) : Unicode.isSpace c = false := (Cln.both h).1
theorem Cln.sub {c : Nat} (h : Cln c = true) : subC c = c := (Cln.both h).2
theorem fold_cln : ∀ (l : List Nat) (ws : List Str) (rn : Str), l.all Cln = true → (l.map subC).foldl KWd.step (ws, rn) = (ws, rn ++ ⟨l.toArray⟩)
  | [], ws, rn, _ => by
    show (ws, rn) = (ws, rn ++ ⟨#[]⟩)
    refine congrArg (Prod.mk ws) (Str.ext' ?_)
    rw [Str.cps_append]; exact (Array.append_empty).symm
  | c :: r, ws, rn, h => by
    rw [List.all_cons, Bool.and_eq_true] at h
    have e : KWd.step (ws, rn) (subC c) = (ws, rn ++ ⟨#[c]⟩) := by
      rw [Cln.sub h.1]; unfold KWd.step; rw [if_neg (by rw [Cln.space h.1]; exact Bool.false_ne_true)]
    rw [List.map_cons, List.foldl_cons, e, fold_cln r ws _ h.2]
    refine congrArg (Prod.mk ws) (Str.ext' ?_)
    rw [Str.cps_append, Str.cps_append, Str.cps_append, Array.append_assoc]
    refine congrArg _ (Array.toList_inj.mp ?_)
    rw [Array.toList_append]; rfl
theorem emp_app (x : Str) : Str.empty ++ x = x := Str.ext' (by rw [Str.cps_append]; exact Array.empty_append)
theorem fold_txt {x : Str} (ws : List Str) (h : x.cps.toList.all Cln = true) : (x.cps.toList.map subC).foldl KWd.step (ws, Str.empty) = (ws, x) := by
  rw [fold_cln _ _ _ h, emp_app]
theorem str_len {x : Str} (h : sEq x "" = false) : x.length ≠ 0 := fun e => by
  have : x = Str.ofString "" := Str.ext' (by rw [Array.eq_empty_of_size_eq_zero e]; rfl)
  rw [this] at h
  exact absurd h (by decide +kernel)
theorem fold_sep {sp : Str} (hs : sp.cps = #[44] ∨ sp.cps = #[32] ∨ sp.cps = #[44, 32]) (ws : List Str) {x : Str} (hx : x.length ≠ 0) : (sp.cps.toList.map subC).foldl KWd.step (ws, x) = (ws ++ [x], Str.empty) := by
  have e : KWd.step (ws, x) 32 = (ws ++ [x], Str.empty) := by
    unfold KWd.step; rw [if_pos (by decide +kernel), if_neg hx]
  have e2 : KWd.step (ws ++ [x], Str.empty) 32 = (ws ++ [x], Str.empty) := by
    unfold KWd.step; rw [if_pos (by decide +kernel)]; exact if_pos rfl
  rcases hs with h | h | h <;> rw [h]
  · exact e
  · exact e
  · show KWd.step (KWd.step (ws, x) 32) 32 = _
    rw [e, e2]
structure Wd (x : Str) : Prop where
  cl : x.cps.toList.all Cln = true
  ne : sEq x "" = false
  sz : x.length ≤ 5
theorem scan_join {sp : Str} (hs : sp.cps = #[44] ∨ sp.cps = #[32] ∨ sp.cps = #[44, 32]) : ∀ (x : Str) (xs : List Str) (ws : List Str), (∀ y ∈ x :: xs, Wd y) →
    ∃ ws' y, ((Str.join sp (x :: xs)).cps.toList.map subC).foldl KWd.step (ws, Str.empty) = (ws', y) ∧ y.length ≠ 0 ∧ ws' ++ [y] = ws ++ x :: xs
  | x, [], ws, h => ⟨ws, x, fold_txt ws (h x List.mem_cons_self).cl, str_len (h x List.mem_cons_self).ne, rfl⟩
  | x, y :: r, ws, h => by
    obtain ⟨ws', z, e1, e2, e3⟩ := scan_join hs y r (ws ++ [x]) fun a ha => h a (List.mem_cons_of_mem _ ha)
    refine ⟨ws', z, ?_, e2, by rw [e3]; simp⟩
    show ((x ++ sp ++ Str.join sp (y :: r)).cps.toList.map subC).foldl KWd.step (ws, Str.empty) = _
    simp only [Str.cps_append, Array.toList_append, List.map_append, List.foldl_append]
    rw [fold_txt ws (h x List.mem_cons_self).cl, fold_sep hs ws (str_len (h x List.mem_cons_self).ne), e1]
theorem join_len {sp : Str} (hs : sp.length ≤ 2) : ∀ (xs : List Str), (∀ y ∈ xs, Wd y) → (Str.join sp xs).length ≤ 7 * xs.length
  | [], _ => Nat.zero_le _
  | [x], h => Nat.le_trans (h x List.mem_cons_self).sz (by rw [List.length_singleton]; decide)
  | x :: y :: r, h => by
    have ih := join_len hs (y :: r) fun a ha => h a (List.mem_cons_of_mem _ ha)
    have hx := (h x List.mem_cons_self).sz
    have e : (Str.join sp (x :: y :: r)).length = x.length + sp.length + (Str.join sp (y :: r)).length := by
      show (x ++ sp ++ Str.join sp (y :: r)).cps.size = _
      simp only [Str.cps_append, Array.size_append]; rfl
    rw [e, List.length_cons]; omega
theorem join_head {sp : Str} (x : Str) (xs : List Str) (h : x.length ≠ 0) : (Str.join sp (x :: xs)).cps.toList.head? = x.cps.toList.head? := by
  match xs with
  | [] => rfl
  | y :: r =>
    show (x ++ sp ++ Str.join sp (y :: r)).cps.toList.head? = _
    simp only [Str.cps_append, Array.toList_append, List.append_assoc]
    cases hx : x.cps.toList with
    | nil => exact absurd (by rw [Str.length, ← Array.length_toList, hx]; rfl) h
    | cons a b => rfl
theorem beq_no {x y : Str} (h : x.cps.toList.head? ≠ y.cps.toList.head?) : sEq x y = false := by
  cases e : sEq x y with
  | false => rfl
  | true => exact absurd (congrArg (fun z : Str => z.cps.toList.head?) (sEq_iff.mp e)) h
structure DashT (sd : Str) (xs : List Str) : Prop where
  hs : sd.length ≤ 1000000
  none : sEq sd "none" = false
  emp : sEq sd "" = false
  w : Txt.words (Txt.replace sd (Str.ofString ",") (Str.ofString " ")) = xs
  hr : (Txt.replace sd (Str.ofString ",") (Str.ofString " ")).length ≤ 1000000
theorem dash_join {sp : Str} (hs : sp.cps = #[44] ∨ sp.cps = #[32] ∨ sp.cps = #[44, 32]) (x : Str) (xs : List Str) (h : ∀ y ∈ x :: xs, Wd y) (hn : xs.length ≤ 2) : DashT (Str.join sp (x :: xs)) (x :: xs) := by
  have hl : sp.length ≤ 2 := by
    rcases hs with e | e | e <;> (rw [Str.length, e]; decide)
  have hsz := join_len hl (x :: xs) h
  have hsz' : (Str.join sp (x :: xs)).length ≤ 21 := by rw [List.length_cons] at hsz; omega
  have hx := h x List.mem_cons_self
  have hh := join_head (sp := sp) x xs (str_len hx.ne)
  have hc : ∃ a, x.cps.toList.head? = some a ∧ Cln a = true := by
    have := hx.cl
    cases hx' : x.cps.toList with
    | nil => exact absurd (by rw [Str.length, ← Array.length_toList, hx']; rfl) (str_len hx.ne)
    | cons a b => rw [hx', List.all_cons, Bool.and_eq_true] at this; exact ⟨a, rfl, this.1⟩
  obtain ⟨a, ha, hca⟩ := hc
  have rl : (Txt.replace (Str.join sp (x :: xs)) (Str.ofString ",") (Str.ofString " ")).cps.toList = (Str.join sp (x :: xs)).cps.toList.map subC := rep_cps _
  refine ⟨Nat.le_trans hsz' (by decide), beq_no ?_, beq_no ?_, ?_, ?_⟩
  · rw [hh, ha]; intro e
    have e2 : a = 110 := Option.some.inj e
    rw [e2] at hca; exact absurd hca (by decide)
  · rw [hh, ha]; intro e; exact absurd e (by intro e; cases e)
  · obtain ⟨ws', y, e1, e2, e3⟩ := scan_join hs x xs [] h
    have : KWd.scan (Txt.replace (Str.join sp (x :: xs)) (Str.ofString ",") (Str.ofString " ")) = (ws', y) := by
      unfold KWd.scan; rw [rl]; exact e1
    rw [words_of this, if_neg e2, e3]; rfl
  · have e : (Txt.replace (Str.join sp (x :: xs)) (Str.ofString ",") (Str.ofString " ")).length = (Str.join sp (x :: xs)).length := by
      show Array.size _ = Array.size _
      rw [← Array.length_toList, rl, List.length_map, Array.length_toList]
    rw [e]; exact Nat.le_trans hsz' (by decide)
theorem join_ne {sp : Str} (x : Str) (xs : List Str) (h : Wd x) : sEq (Str.join sp (x :: xs)) "" = false := by
  refine beq_no ?_
  rw [join_head x xs (str_len h.ne)]
  cases hx' : x.cps.toList with
  | nil => exact absurd (by rw [Str.length, ← Array.length_toList, hx']; rfl) (str_len h.ne)
  | cons a b => intro e; cases e
theorem clnB_wd {x : Str} (m : clnB x = true) : Wd x := by
  unfold clnB at m
  simp only [Bool.and_eq_true, Bool.not_eq_true'] at m
  exact ⟨m.1.1.1, m.1.1.2, Nat.ble_eq.mp m.1.2⟩
theorem clnB_sl {x : Str} (m : clnB x = true) : (Txt.slice x none (some (-1))).length ≤ 1000000 := by
  unfold clnB at m
  simp only [Bool.and_eq_true, Bool.not_eq_true'] at m
  exact Nat.le_trans (Nat.ble_eq.mp m.2) (by decide)
theorem dash_of {W : Int} {sp : Str} (hs : sp.cps = #[44] ∨ sp.cps = #[32] ∨ sp.cps = #[44, 32]) {ps : List (Str × Int)} (h : MenuP W ps) (n : ps.length ≤ 3) (hne : ps ≠ []) :
    DashW W (Txt.join sp (ps.map (·.1))) ps ∧ (((Txt.join sp (ps.map (·.1))).length : Int) != 0) = true ∧ (Txt.join sp (ps.map (·.1))).length ≤ 1000000 := by
  cases ps with
  | nil => exact absurd rfl hne
  | cons p r =>
    have hw : ∀ y ∈ p.1 :: r.map (·.1), Wd y := fun y hy => by
      obtain ⟨q, hq, rfl⟩ := List.mem_map.mp (show y ∈ (p :: r).map (·.1) from hy)
      exact clnB_wd (h q hq).1.c
    have je : Txt.join sp ((p :: r).map (·.1)) = Str.join sp (p.1 :: r.map (·.1)) := StrLaws.glued_eq_join _ _
    rw [je]
    have T := dash_join hs p.1 (r.map (·.1)) hw (by rw [List.length_map]; exact Nat.le_of_succ_le_succ n)
    have e := join_ne (sp := sp) p.1 (r.map (·.1)) (hw _ List.mem_cons_self)
    refine ⟨⟨T.none, T.emp, T.hs, T.hr, T.w, Nat.le_trans n (by decide), fun q hq => (clnB_wd (h q hq).1.c).ne, fun q hq => (h q hq).1.t, fun q hq => clnB_sl (h q hq).1.c⟩, ?_, T.hs⟩
    have := str_len e
    exact bne_iff_ne.mpr (by show ((Str.join sp (p.1 :: r.map (·.1))).length : Int) ≠ 0; omega)
theorem sum_of {W : Int} {sp : Str} (hs : sp.length ≤ 2) {ps : List (Str × Int)} (h : MenuP W ps) (n : ps.length ≤ 3) : ((ps.map (·.1)).map (·.length)).sum + (ps.map (·.1)).length * sp.length ≤ 1000000 := by
  have key : ∀ qs : List (Str × Int), (∀ p ∈ qs, p ∈ ps) → ((qs.map (·.1)).map (·.length)).sum ≤ 5 * qs.length := by
    intro qs
    induction qs with
    | nil => intro _; exact Nat.le_refl _
    | cons q r ih =>
      intro hq
      have h1 := clnB_len (h q (hq q List.mem_cons_self)).1.c
      have h2 := ih fun p hp => hq p (List.mem_cons_of_mem _ hp)
      simp only [List.map_cons, List.sum_cons, List.length_cons]
      omega
  have h1 := key ps fun _ hp => hp
  have h2 : ps.length * sp.length ≤ 3 * 2 := Nat.mul_le_mul n hs
  rw [List.length_map]
  omega
end
end
section
set_option backward.match.sparseCases false
structure LkSt (σ : Sto) (S T E : Addr) (fs : List (Str × Dat)) (ds : List Dat) (Z : Sto) : Prop where
  s : Src Z S
  x : SLx S σ Z
  t : Z T = some (.dict fs)
  e : Z E = some (.list ds)
theorem Src.put {σ : Sto} {S T : Addr} {x : MO} (h : Src σ S) (n : T ≠ S) : Src (σ.set T x) S :=
  let ⟨a, b, a0, b0, b1, hS⟩ := h.at_
  ⟨a, b, a0, b0, b1, (Sto.set_ne (Ne.symm n)).trans hS⟩
theorem none_of_lx {σ σ' : Sto} {S T : Addr} (l : SLx S σ σ') (n : T ≠ S) (h : σ' T = none) : σ T = none := by
  cases e : σ T with
  | none => rfl
  | some m => rw [l T m n e] at h; cases h
theorem SLx.upd {σ σ' : Sto} {S T : Addr} {x : MO} (l : SLx S σ σ') (h : σ T = none) : SLx S σ (σ'.set T x) := fun a m n e => by
  have q : a ≠ T := fun q => by rw [q, h] at e; cases e
  exact (Sto.set_ne q).trans (l a m n e)
theorem LkSt.put {σ Z : Sto} {S T E : Addr} {fs fs' : List (Str × Dat)} {ds : List Dat} (h : LkSt σ S T E fs ds Z) (nT : T ≠ S) (nTE : T ≠ E) (h0 : σ T = none) : LkSt σ S T E fs' ds (Z.set T (.dict fs')) := ⟨h.s.put nT, h.x.upd h0, Sto.set_same, (Sto.set_ne (Ne.symm nTE)).trans h.e⟩
theorem LkSt.putD {σ Z : Sto} {S T E : Addr} {fs : List (Str × Dat)} {ds : List Dat} (h : LkSt σ S T E fs ds Z) (x : Str) (d : Dat) (nT : T ≠ S) (nTE : T ≠ E) (h0 : σ T = none) : LkSt σ S T E (refSet.putD fs x d) ds (Z.set T (.dict (refSet.putD fs x d))) := h.put nT nTE h0
theorem LkSt.on {σ Z Z' : Sto} {S T E : Addr} {fs : List (Str × Dat)} {ds : List Dat} (h : LkSt σ S T E fs ds Z) (hs : Src Z' S) (l : SLx S Z Z') (nT : T ≠ S) (nE : E ≠ S) : LkSt σ S T E fs ds Z' := ⟨hs, h.x.trans l, l _ _ nT h.t, l _ _ nE h.e⟩
theorem menu_num {x : Str} {n : Int} (m : menuB x n = true) : NumT x n := by
  unfold menuB at m
  rw [Bool.and_eq_true, Bool.and_eq_true] at m
  exact numB_ok m.1.1
theorem zero_menu (W : Int) : MenuP W [("0", 0), ("0", 0)] := fun p hp => by
  have e : p = ((Str.ofString "0" : Str), (0 : Int)) := by
    rcases List.mem_cons.mp hp with e | e
    · exact e
    · exact List.mem_singleton.mp e
  subst e
  exact ⟨.of (by decide +kernel), Bd.lit (by decide)⟩
theorem str3 {d : Dat} {x y z : Str} (h : d ∈ [Dat.str x, Dat.str y, Dat.str z]) (hx : PyData.strOk x = true) (hy : PyData.strOk y = true) (hz : PyData.strOk z = true) : ∃ s, d = .str s ∧ PyData.strOk s = true := by
  simp only [List.mem_cons, List.not_mem_nil, or_false] at h
  rcases h with e | e | e
  · exact ⟨_, e, hx⟩
  · exact ⟨_, e, hy⟩
  · exact ⟨_, e, hz⟩
theorem or_none {ih : Sto → (Dat → Sto → Prop) → Prop} {Q : Dat → Sto → Prop} {x : Str} {Z : Sto} (y : Str) {P : Str → Prop} (hx : x.length ≤ 1000000) (h1 : ((x.length : Int) != 0) = true → P x) (h2 : ((x.length : Int) != 0) = false → P y) (hih : ∀ (Q : Dat → Sto → Prop) (Z : Sto), Q (.str y) Z → ih Z Q) (h : ∀ z, P z → Q (.str z) Z) : bolK .Or ih Q (.str x) Z :=
  ⟨hx, ⟨fun e => h x (h1 e), fun e => hih Q Z (h y (h2 e))⟩⟩
theorem join_le2 (sp : Str) (xs : List Str) : (Txt.join sp xs).length ≤ (xs.map (·.length)).sum + xs.length * sp.length := by
  rw [show Txt.join sp xs = Str.join sp xs from StrLaws.glued_eq_join sp xs]; exact StrLaws.join_length_le sp xs
theorem strP_snoc (u : List (Str × Int)) (p : Str × Int) : strP u ++ [.str p.1] = strP (u ++ [p]) := by unfold strP; rw [List.map_append, List.map_append]; rfl
theorem prD_k {ps : List (Str × Int)} (h : ps.length ≤ 3) : Nat.ble (prD ps).length 1000 = true := by unfold prD; rw [List.length_map]; exact Nat.ble_eq.mpr (by omega)
theorem Src.le {σ σ' : Sto} {S : Addr} (h : Src σ S) (l : SLe σ σ') : Src σ' S :=
  let ⟨a, b, a0, b0, b1, hS⟩ := h.at_
  ⟨a, b, a0, b0, b1, l _ _ hS⟩
section
variable {w : World} {D : Nat} {σ : Sto} {Q : Dat → Sto → Prop}
theorem c_lawLook {S : Addr} {W : Int} (hS : Src σ S) (w0 : 1 ≤ W) (w1 : W ≤ 30)
    (h : ∀ T R N fs hw hs hl ps sw so sm sd sj sc σ', LookW fs W hw hs hl ps sw so sm sd sj sc → PyData.strOk sj = true → PyData.strOk sc = true → Bd 20 hw → Bd 20 hs → Bd 20 hl → (∀ p ∈ ps, Bd 20 p.2) → ps.length ≤ 3 → Src σ' S → SLx S σ σ' → T ≠ S → σ' T = some (.dict fs) →
      σ' R = some (.list [.int hw, .int hs, .int hl, .val (.ref N)]) → σ' N = some (.list (intsD (ps.map (·.2)))) → Q (.tup [.val (.ref T), .val (.ref R)]) σ') : CallP w (D + 10) (.ref 1194) [.val (.ref S), .int W] σ Q := by
  (refine CodeP.call ?_; (refine' enterW (n := 60) (vars0 := [("source", .val (.ref S)), ("whole", .int W)]) ?ho ?hc ?hb ?hs ?hh; (case ho => (show List.lookup _ (Mine.frame.heap_1 (World.params _)) = _; k_is)); (case hc => (show codeIn (Mine.frame.heap_1 (World.params _)) _ _ = true; k_is)); (case hb => exact bind2 fun _ _ => by kernel_rfl!); (case hs => exact rfl)))
  (repeat (first | wtm_at "vc0" | ((conv => whnf); wtm_at "vc0")))
  (conv => whnf)
  refine c_lawLen hS (by omega) (by omega) w0 w1 fun xw hw σ1 mw bw hS1 l1 => ?_
  (repeat (first | wtm_at "vc0" | ((conv => whnf); wtm_at "vc0")))
  (conv => whnf)
  refine c_lawLen hS1 (by omega) (by omega) w0 w1 fun xo hs σ2 mo bo hS2 l2 => ?_
  (repeat (first | wtm_at "vc0" | ((conv => whnf); wtm_at "vc0")))
  (conv => whnf)
  refine c_take hS2 (by omega) (by omega) fun i σ3 i0 i1 hS3 l3 => ?_
  (conv => whnf)
  refine And.intro ⟨by omega, by omega, by omega, by omega, by omega⟩ ?_
  (conv => whnf)
  refine CmpX.inv (fun rest acc σ' => ∃ ps, acc = prD ps ∧ MenuP W ps ∧ ps.length + rest.length ≤ 3 ∧ Src σ' S ∧ SLx S σ σ') ⟨[], rfl, fun _ q => (nomatch q), by rw [rngDs_len]; simp; omega, hS3, (l1.trans l2).trans l3⟩ ?_ ?_
  · rintro acc σ4 ⟨ps, rfl, mp, n3, hS4, l4⟩
    (conv => whnf)
    intro E hE
    (conv => whnf)
    have lE : SLx S σ (σ4.set E (.list (prD ps))) := l4.trans (SLx.new hE)
    have nE : E ≠ S := (hS4.new (x := .held) hE).2
    have hE4 : (σ4.set E (.list (prD ps))) E = _ := Sto.set_same
    refine c_take (hS4.new hE).1 (by omega) (by omega) fun i6 σ6 i60 i61 hS6 l6 => ?_
    have hE6 := l6 _ _ nE hE4
    have l6 := lE.trans l6
    (repeat (first | wtm_at "vc0" | ((conv => whnf); wtm_at "vc0")))
    (conv => whnf)
    refine brn_ (fun q => ?_) (fun q => ?_)
    · (repeat (first | wtm_at "vc0" | ((conv => whnf); wtm_at "vc0")))
      rename_i A0 hA0 A1 hA1
      (conv => whnf)
      have hS60 := (hS6.new (x := .list [.tup [.str "0", .int 0]]) hA0).1
      have hSx := (hS60.new (x := .list (prD [("0", 0), ("0", 0)])) hA1).1
      have nE := (hS60.new (x := .held) hA1).2
      have lx := (l6.trans (SLx.new (x := .list [.tup [.str "0", .int 0]]) hA0)).trans (SLx.new (x := .list (prD [("0", 0), ("0", 0)])) hA1)
      have hEx := Sto.set_same (σ := σ6.set A0 (.list [.tup [.str "0", .int 0]])) (a := A1) (o := .list (prD [("0", 0), ("0", 0)]))
      have mp' : MenuP W [("0", 0), ("0", 0)] := zero_menu W
      have n3' : ([("0", 0), ("0", 0)] : List (Str × Int)).length ≤ 3 := by decide
      refine c_number hSx (by omega) (by omega) fun xm hm S7 mm bm hS7 l7 => ?_
      have hE7 := l7 _ _ nE hEx
      have lz7 := lx.trans l7
      (repeat (first | wtm_at "vc0" | ((conv => whnf); wtm_at "vc0")))
      rename_i T hT L1 hL1
      (conv => whnf)
      have nT : T ≠ S := (hS7.new (x := .held) hT).2
      refine c_oneOf (hS7.new hT).1 hL1 (by decide) (by decide) fun d S8 hd hS8 l8 => ?_
      have d3 : ∃ sp, d = .str sp ∧ sp.length ≤ 2 ∧ (sp.cps = #[44] ∨ sp.cps = #[32] ∨ sp.cps = #[44, 32]) := by
        simp only [List.mem_cons, List.not_mem_nil, or_false] at hd
        rcases hd with e | e | e
        · exact ⟨_, e, by decide, .inl rfl⟩
        · exact ⟨_, e, by decide, .inr (.inl rfl)⟩
        · exact ⟨_, e, by decide, .inr (.inr rfl)⟩
      obtain ⟨sp, rfl, hs2, hsp⟩ := d3
      have hT8 := l8 _ _ nT Sto.set_same
      have hE8 := l8 _ _ nE ((Sto.set_ne (neS hT hE7)).trans hE7)
      have lz8 := lz7.trans ((SLx.new hT).trans l8)
      have nTE : T ≠ A1 := Ne.symm (neS hT hE7)
      (conv => whnf)
      refine ⟨prD ([("0", 0), ("0", 0)] : List (Str × Int)), hE8, prD_k n3', ?_⟩
      (conv => whnf)
      refine CmpX.inv (fun rest acc σ' => ∃ u1 u2, acc = strP u1 ∧ rest = prD u2 ∧ u1 ++ u2 = ([("0", 0), ("0", 0)] : List (Str × Int)) ∧ S8.del A1 = σ') ⟨[], _, rfl, rfl, rfl, rfl⟩ ?_ ?_
      · rintro acc _ ⟨u1, u2, rfl, e2, e3, rfl⟩
        cases u2 with
        | cons => cases e2
        | nil =>
          rw [List.append_nil] at e3
          rw [e3]
          (conv => whnf)
          intro A2 hA2
          (conv => whnf)
          have lb : SLe S8 ((S8.del A1).set A1 (.list (prD ([("0", 0), ("0", 0)] : List (Str × Int))))) := SLe.back hE8 SLe.rfl
          have lb2 := lb.upd (x := .list (strP ([("0", 0), ("0", 0)] : List (Str × Int)))) (none_of_le lb hA2)
          have hSZ := hS8.le lb2
          have lzZ := lz8.trans (.of lb2)
          have hTZ := lb2 _ _ hT8
          have hEZ := lb2 _ _ hE8
          refine ⟨([("0", 0), ("0", 0)] : List (Str × Int)).map (·.1), ⟨Sto.set_same, sum_of hs2 mp' n3'⟩, ?_⟩
          generalize (((S8.del A1).set A1 (.list (prD ([("0", 0), ("0", 0)] : List (Str × Int))))).set A2 (.list (strP ([("0", 0), ("0", 0)] : List (Str × Int))))) = Z at hSZ lzZ hTZ hEZ ⊢
          refine or_none "none" (P := fun sd => DashL W sd ([("0", 0), ("0", 0)] : List (Str × Int))) ?_ ?_ ?_ (fun _ _ h => h) ?_
          · exact Nat.le_trans (join_le2 sp _) (sum_of hs2 mp' n3')
          · exact fun e => .inr (dash_of hsp mp' n3' (fun e2 => by rw [e2] at e; cases e)).1
          · exact fun e => .inl ⟨rfl, Classical.byContradiction fun e2 => by rw [(dash_of hsp mp' n3' e2).2.1] at e; cases e⟩
          · intro sd td
            (conv => whnf)
            have hT0 := none_of_lx lz7 nT hT
            have z := LkSt.mk hSZ lzZ hTZ hEZ
            refine ⟨_, z.t, Nat.le_of_ble_eq_true rfl, ?_⟩
            have z := z.putD "stroke-dasharray" (.str sd) nT nTE hT0
            (conv => whnf)
            intro L3 hL3
            (conv => whnf)
            refine c_oneOf z.s hL3 (by decide) (by decide) fun d S9 hd hS9 l9 => ?_
            obtain ⟨sj, rfl, kj⟩ := str3 hd (by decide +kernel) (by decide +kernel) (by decide +kernel)
            have z := z.on hS9 l9 nT nE
            (conv => whnf)
            refine ⟨_, z.t, Nat.le_of_ble_eq_true rfl, ?_⟩
            have z := z.putD "stroke-linejoin" (.str sj) nT nTE hT0
            (conv => whnf)
            intro L4 hL4
            (conv => whnf)
            refine c_oneOf z.s hL4 (by decide) (by decide) fun d S10 hd hS10 l10 => ?_
            obtain ⟨sc, rfl, kc⟩ := str3 hd (by decide +kernel) (by decide +kernel) (by decide +kernel)
            have z := z.on hS10 l10 nT nE
            (conv => whnf)
            refine ⟨_, z.t, Nat.le_of_ble_eq_true rfl, ?_⟩
            have z := z.putD "stroke-linecap" (.str sc) nT nTE hT0
            (conv => whnf)
            refine ⟨prD ([("0", 0), ("0", 0)] : List (Str × Int)), z.e, prD_k n3', ?_⟩
            generalize S10.set T _ = Z7 at z ⊢
            (conv => whnf)
            refine CmpX.inv (fun rest acc σ' => ∃ u1 u2, acc = intsD (u1.map (·.2)) ∧ rest = prD u2 ∧ u1 ++ u2 = ([("0", 0), ("0", 0)] : List (Str × Int)) ∧ Z7.del A1 = σ') ⟨[], _, rfl, rfl, rfl, rfl⟩ ?_ ?_
            · rintro acc _ ⟨u1, u2, rfl, e2, e3, rfl⟩
              cases u2 with
              | cons => cases e2
              | nil =>
                rw [List.append_nil] at e3
                rw [e3]
                (conv => whnf)
                intro N hN
                (conv => whnf)
                intro R hR
                (conv => whnf)
                have lb : SLe Z7 ((Z7.del A1).set A1 (.list (prD ([("0", 0), ("0", 0)] : List (Str × Int))))) := SLe.back z.e SLe.rfl
                have lb2 := lb.upd (x := .list (intsD (([("0", 0), ("0", 0)] : List (Str × Int)).map (·.2)))) (none_of_le lb hN)
                have lb3 := lb2.upd (x := .list [.int hw, .int hs, .int hm, .val (.ref N)]) (none_of_le lb2 hR)
                refine h T R N _ hw hs hm ([("0", 0), ("0", 0)] : List (Str × Int)) xw xo xm sd sj sc _ ⟨rfl, rfl, rfl, rfl, rfl, rfl, rfl, mw.t, clnB_sl mw.c, mo.t, clnB_sl mo.c, menu_num mm, td, Nat.le_trans n3' (by decide)⟩ kj kc bw bo bm (fun p hp => (mp' p hp).2) n3' (z.s.le lb3) (z.x.trans (.of lb3)) nT (lb3 _ _ z.t) Sto.set_same ?_
                exact (Sto.set_ne (neS hR Sto.set_same)).trans Sto.set_same
            · rintro d ds acc _ ⟨u1, u2, rfl, e2, e3, rfl⟩
              cases u2 with
              | nil => cases e2
              | cons p u2 =>
                obtain ⟨rfl, rfl⟩ := List.cons.inj e2
                (repeat (first | wtm_at "vc0" | ((conv => whnf); wtm_at "vc0")))
                exact ⟨u1 ++ [p], u2, by rw [List.map_append]; exact intsD_snoc _ _, rfl, by rw [List.append_assoc]; exact e3, rfl⟩
      · rintro d ds acc _ ⟨u1, u2, rfl, e2, e3, rfl⟩
        cases u2 with
        | nil => cases e2
        | cons p u2 =>
          obtain ⟨rfl, rfl⟩ := List.cons.inj e2
          (repeat (first | wtm_at "vc0" | ((conv => whnf); wtm_at "vc0")))
          exact ⟨u1 ++ [p], u2, strP_snoc u1 p, rfl, by rw [List.append_assoc]; exact e3, rfl⟩
    · (repeat (first | wtm_at "vc0" | ((conv => whnf); wtm_at "vc0")))
      (conv => whnf)
      have hSx := hS6
      have lx := l6
      have hEx := hE6
      have mp' := mp
      have n3' : ps.length ≤ 3 := by simp only [List.length_nil] at n3; omega
      refine c_number hSx (by omega) (by omega) fun xm hm S7 mm bm hS7 l7 => ?_
      have hE7 := l7 _ _ nE hEx
      have lz7 := lx.trans l7
      (repeat (first | wtm_at "vc0" | ((conv => whnf); wtm_at "vc0")))
      rename_i T hT L1 hL1
      (conv => whnf)
      have nT : T ≠ S := (hS7.new (x := .held) hT).2
      refine c_oneOf (hS7.new hT).1 hL1 (by decide) (by decide) fun d S8 hd hS8 l8 => ?_
      have d3 : ∃ sp, d = .str sp ∧ sp.length ≤ 2 ∧ (sp.cps = #[44] ∨ sp.cps = #[32] ∨ sp.cps = #[44, 32]) := by
        simp only [List.mem_cons, List.not_mem_nil, or_false] at hd
        rcases hd with e | e | e
        · exact ⟨_, e, by decide, .inl rfl⟩
        · exact ⟨_, e, by decide, .inr (.inl rfl)⟩
        · exact ⟨_, e, by decide, .inr (.inr rfl)⟩
      obtain ⟨sp, rfl, hs2, hsp⟩ := d3
      have hT8 := l8 _ _ nT Sto.set_same
      have hE8 := l8 _ _ nE ((Sto.set_ne (neS hT hE7)).trans hE7)
      have lz8 := lz7.trans ((SLx.new hT).trans l8)
      have nTE : T ≠ E := Ne.symm (neS hT hE7)
      (conv => whnf)
      refine ⟨prD ps, hE8, prD_k n3', ?_⟩
      (conv => whnf)
      refine CmpX.inv (fun rest acc σ' => ∃ u1 u2, acc = strP u1 ∧ rest = prD u2 ∧ u1 ++ u2 = ps ∧ S8.del E = σ') ⟨[], _, rfl, rfl, rfl, rfl⟩ ?_ ?_
      · rintro acc _ ⟨u1, u2, rfl, e2, e3, rfl⟩
        cases u2 with
        | cons => cases e2
        | nil =>
          rw [List.append_nil] at e3
          rw [e3]
          (conv => whnf)
          intro A2 hA2
          (conv => whnf)
          have lb : SLe S8 ((S8.del E).set E (.list (prD ps))) := SLe.back hE8 SLe.rfl
          have lb2 := lb.upd (x := .list (strP ps)) (none_of_le lb hA2)
          have hSZ := hS8.le lb2
          have lzZ := lz8.trans (.of lb2)
          have hTZ := lb2 _ _ hT8
          have hEZ := lb2 _ _ hE8
          refine ⟨ps.map (·.1), ⟨Sto.set_same, sum_of hs2 mp' n3'⟩, ?_⟩
          generalize (((S8.del E).set E (.list (prD ps))).set A2 (.list (strP ps))) = Z at hSZ lzZ hTZ hEZ ⊢
          refine or_none "none" (P := fun sd => DashL W sd ps) ?_ ?_ ?_ (fun _ _ h => h) ?_
          · exact Nat.le_trans (join_le2 sp _) (sum_of hs2 mp' n3')
          · exact fun e => .inr (dash_of hsp mp' n3' (fun e2 => by rw [e2] at e; cases e)).1
          · exact fun e => .inl ⟨rfl, Classical.byContradiction fun e2 => by rw [(dash_of hsp mp' n3' e2).2.1] at e; cases e⟩
          · intro sd td
            (conv => whnf)
            have hT0 := none_of_lx lz7 nT hT
            have z := LkSt.mk hSZ lzZ hTZ hEZ
            refine ⟨_, z.t, Nat.le_of_ble_eq_true rfl, ?_⟩
            have z := z.putD "stroke-dasharray" (.str sd) nT nTE hT0
            (conv => whnf)
            intro L3 hL3
            (conv => whnf)
            refine c_oneOf z.s hL3 (by decide) (by decide) fun d S9 hd hS9 l9 => ?_
            obtain ⟨sj, rfl, kj⟩ := str3 hd (by decide +kernel) (by decide +kernel) (by decide +kernel)
            have z := z.on hS9 l9 nT nE
            (conv => whnf)
            refine ⟨_, z.t, Nat.le_of_ble_eq_true rfl, ?_⟩
            have z := z.putD "stroke-linejoin" (.str sj) nT nTE hT0
            (conv => whnf)
            intro L4 hL4
            (conv => whnf)
            refine c_oneOf z.s hL4 (by decide) (by decide) fun d S10 hd hS10 l10 => ?_
            obtain ⟨sc, rfl, kc⟩ := str3 hd (by decide +kernel) (by decide +kernel) (by decide +kernel)
            have z := z.on hS10 l10 nT nE
            (conv => whnf)
            refine ⟨_, z.t, Nat.le_of_ble_eq_true rfl, ?_⟩
            have z := z.putD "stroke-linecap" (.str sc) nT nTE hT0
            (conv => whnf)
            refine ⟨prD ps, z.e, prD_k n3', ?_⟩
            generalize S10.set T _ = Z7 at z ⊢
            (conv => whnf)
            refine CmpX.inv (fun rest acc σ' => ∃ u1 u2, acc = intsD (u1.map (·.2)) ∧ rest = prD u2 ∧ u1 ++ u2 = ps ∧ Z7.del E = σ') ⟨[], _, rfl, rfl, rfl, rfl⟩ ?_ ?_
            · rintro acc _ ⟨u1, u2, rfl, e2, e3, rfl⟩
              cases u2 with
              | cons => cases e2
              | nil =>
                rw [List.append_nil] at e3
                rw [e3]
                (conv => whnf)
                intro N hN
                (conv => whnf)
                intro R hR
                (conv => whnf)
                have lb : SLe Z7 ((Z7.del E).set E (.list (prD ps))) := SLe.back z.e SLe.rfl
                have lb2 := lb.upd (x := .list (intsD (ps.map (·.2)))) (none_of_le lb hN)
                have lb3 := lb2.upd (x := .list [.int hw, .int hs, .int hm, .val (.ref N)]) (none_of_le lb2 hR)
                refine h T R N _ hw hs hm ps xw xo xm sd sj sc _ ⟨rfl, rfl, rfl, rfl, rfl, rfl, rfl, mw.t, clnB_sl mw.c, mo.t, clnB_sl mo.c, menu_num mm, td, Nat.le_trans n3' (by decide)⟩ kj kc bw bo bm (fun p hp => (mp' p hp).2) n3' (z.s.le lb3) (z.x.trans (.of lb3)) nT (lb3 _ _ z.t) Sto.set_same ?_
                exact (Sto.set_ne (neS hR Sto.set_same)).trans Sto.set_same
            · rintro d ds acc _ ⟨u1, u2, rfl, e2, e3, rfl⟩
              cases u2 with
              | nil => cases e2
              | cons p u2 =>
                obtain ⟨rfl, rfl⟩ := List.cons.inj e2
                (repeat (first | wtm_at "vc0" | ((conv => whnf); wtm_at "vc0")))
                exact ⟨u1 ++ [p], u2, by rw [List.map_append]; exact intsD_snoc _ _, rfl, by rw [List.append_assoc]; exact e3, rfl⟩
      · rintro d ds acc _ ⟨u1, u2, rfl, e2, e3, rfl⟩
        cases u2 with
        | nil => cases e2
        | cons p u2 =>
          obtain ⟨rfl, rfl⟩ := List.cons.inj e2
          (repeat (first | wtm_at "vc0" | ((conv => whnf); wtm_at "vc0")))
          exact ⟨u1 ++ [p], u2, strP_snoc u1 p, rfl, by rw [List.append_assoc]; exact e3, rfl⟩
  · rintro d ds acc σ4 ⟨ps, rfl, mp, n3, hS4, l4⟩
    (repeat (first | wtm_at "vc0" | ((conv => whnf); wtm_at "vc0")))
    rename_i L hL
    (conv => whnf)
    refine c_oneOf hS4 hL (by decide) (by decide) fun d σ5 hd hS5 l5 => ?_
    have d4 : ∃ p, d = .int p ∧ -1 ≤ p ∧ p ≤ 0 := by
      simp only [List.mem_cons, List.not_mem_nil, or_false] at hd
      rcases hd with e | e | e | e | e <;> exact ⟨_, e, by decide, by decide⟩
    obtain ⟨p, rfl, p0, p1⟩ := d4
    (conv => whnf)
    refine c_lawLen hS5 (by omega) (by omega) w0 w1 fun x n σ6 mx bn hS6 l6 => ?_
    (conv => whnf)
    exact ⟨ps ++ [(x, n)], prD_snoc ps x n, mp.snoc mx bn, by rw [List.length_append]; simp only [List.length_cons, List.length_nil] at n3 ⊢; omega, hS6, (l4.trans l5).trans l6⟩
end
end
section
set_option backward.match.sparseCases false
theorem bmx {k : Nat} {h : Int} (b : Bd k h) : Bd k (if h > 0 then h else 0) := by
  split
  · exact b
  · exact b.of_abs (Nat.zero_le _)
theorem lay_str2 {x y : Str} (hx : PyData.strOk x = true) (hy : PyData.strOk y = true) : (PyData.tuple [.str x, .str y]).canLay0 = true := by
  rw [PyData.canLay0, PyData.canLayAll0, PyData.canLayAll0, PyData.canLayAll0, PyData.canLay0, PyData.canLay0, hx, hy]; rfl
theorem sh_str2 {x y : Str} (hx : PyData.strOk x = true) (hy : PyData.strOk y = true) : SeqAt.shaped (.tuple [.str x, .str y]) = true := by
  unfold SeqAt.shaped; rw [lay_str2 hx hy]; rfl
theorem lay_tup (l : List Int) : (PyData.tuple (l.map .int)).canLay0 = true := by rw [PyData.canLay0]; exact (lay_ints l).1
theorem decn {a b : Int} (h : a = b) : ngB true (decide (a = b)) = false := by rw [decide_eq_true h]; rfl
theorem ne_self {p : PyData} (h : p.canLay0 = true) : (true ^^ PyData.eqv p p) = false := by rw [SeqAt.eqv_refl p h]; rfl
theorem eq_self' {p : PyData} (h : p.canLay0 = true) : (false ^^ PyData.eqv p p) = true := by rw [SeqAt.eqv_refl p h]; rfl
section
variable {w : World} {D : Nat} {σ : Sto} {Q : Dat → Sto → Prop}
theorem c_styleRight {S : Addr} (hS : Src σ S) (h : ∀ σ', Src σ' S → SLx S σ σ' → Q (.val (.bool true)) σ') : CallP w (D + 26) (.ref 1199) [.val (.ref S)] σ Q := by
  (refine CodeP.call ?_; (refine' enterW (n := 60) (vars0 := [("source", .val (.ref S))]) ?ho ?hc ?hb ?hs ?hh; (case ho => (show List.lookup _ (Mine.frame.heap_1 (World.params _)) = _; k_is)); (case hc => (show codeIn (Mine.frame.heap_1 (World.params _)) _ _ = true; k_is)); (case hb => exact bind1 fun _ => by kernel_rfl!); (case hs => exact rfl)))
  (repeat (first | wtm_at "vc0" | ((conv => whnf); wtm_at "vc0")))
  (conv => whnf)
  refine c_take hS (by omega) (by omega) fun i σ1 i0 i1 hS1 l1 => ?_
  (repeat (first | wtm_at "vc0" | ((conv => whnf); wtm_at "vc0")))
  (conv => whnf)
  refine c_take hS1 (by omega) (by omega) fun j σ2 j0 j1 hS2 l2 => ?_
  (repeat (first | wtm_at "vc0" | ((conv => whnf); wtm_at "vc0")))
  (conv => whnf)
  have eW : 1 ≤ 1 + i ∧ 1 + i ≤ 30 := by omega
  have eL : 1 ≤ 1 + j ∧ 1 + j ≤ 12 := by omega
  generalize 1 + i = W at eW ⊢
  generalize 1 + j = l at eL ⊢
  refine c_lawLook hS2 eW.1 eW.2 fun T R N fs hw hs hl ps sw so sm sd sj sc σ3 L kj kc bw bs bl bp n3 hS3 l3 nT hT hR hN => ?_
  have lz := (l1.trans l2).trans l3
  (repeat (first | wtm_at "vc0" | ((conv => whnf); wtm_at "vc0")))
  (conv => whnf)
  refine k_Look fun x m hm => ?_
  (repeat (first | wtm_at "vc0" | ((conv => whnf); wtm_at "vc0")))
  (conv => whnf)
  have hS4 := hS3.new (x := .ns [("values", .val (.ref T))]) hm
  have lz4 := lz.trans (SLx.new (x := .ns [("values", .val (.ref T))]) hm)
  have hT4 := (Sto.set_ne (o := .ns [("values", .val (.ref T))]) (neS hm hT)).trans hT
  have hR4 := (Sto.set_ne (o := .ns [("values", .val (.ref T))]) (neS hm hR)).trans hR
  have hN4 := (Sto.set_ne (o := .ns [("values", .val (.ref T))]) (neS hm hN)).trans hN
  have hm4 := Sto.set_same (σ := σ3) (a := m) (o := .ns [("values", .val (.ref T))])
  generalize σ3.set m (.ns [("values", .val (.ref T))]) = σ4 at hS4 lz4 hT4 hR4 hN4 hm4 ⊢
  have bW : Bd 10 W := bd_in (by omega) (by omega)
  have bl9 : Bd 10 l := bd_in (by omega) (by omega)
  refine c_style hm4 hT4 L (bW.le (by omega)) (bl9.le (by omega)) fun y e p q σ5 he fl l5 hst => ?_
  have hR5 := l5 _ _ hR4
  have hN5 := l5 _ _ hN4
  have hT5 := l5 _ _ hT4
  (repeat (first | wtm_at "vc0" | ((conv => whnf); wtm_at "vc0")))
  (conv => whnf)
  refine And.intro ?_ ?_
  · rw [intsD_len, List.length_map]; exact Nat.ble_eq.mpr (by omega)
  (conv => whnf)
  refine CmpX.inv (fun rest acc σ' => ∃ u1 u2, acc = intsD (u1.map fun y => gr y.2 l) ∧ rest = intsD (u2.map (·.2)) ∧ u1 ++ u2 = ps ∧ σ5.del N = σ') ⟨[], _, rfl, rfl, rfl, rfl⟩ ?_ ?_
  · rintro acc _ ⟨u1, u2, rfl, e2, e3, rfl⟩
    cases u2 with
    | cons => cases e2
    | nil =>
      rw [List.append_nil] at e3
      rw [e3]
      have gk : (ps.map fun y => gr y.2 l).length ≤ 1000 := by rw [List.length_map]; omega
      generalize (ps.map fun y => gr y.2 l) = gs at hst gk ⊢
      have gkb : Nat.ble (intsD gs).length 1000 = true := by rw [intsD_len]; exact Nat.ble_eq.mpr gk
      (conv => whnf)
      intro A hA
      (conv => whnf)
      refine ⟨_, Sto.set_same, gkb, ?_⟩
      have lb : SLe σ5 ((σ5.del N).set N (.list (intsD (ps.map (·.2))))) := SLe.back hN5 SLe.rfl
      have lb2 := lb.upd (x := .list (intsD gs)) (none_of_le lb hA)
      have hR6 := lb2 _ _ hR5
      have hT6 := lb2 _ _ hT5
      have hst6 := lb2 _ _ hst
      have hS6 := (hS4.1.le l5).le lb2
      have lz6 := (lz4.trans (.of l5)).trans (.of lb2)
      (conv => whnf)
      refine And.intro gkb ?_
      (conv => whnf)
      generalize (((σ5.del N).set N (.list (intsD (ps.map (·.2))))).set A (.list (intsD gs))) = σ6 at hR6 hT6 hst6 hS6 lz6 ⊢
      refine CmpX.inv (fun rest acc σ' => ∃ h1 h2, rest = intsD h2 ∧ acc = intsD (negs h1) ∧ h1 ++ h2 = gs ∧ σ6 = σ') ⟨[], gs, rfl, rfl, rfl, rfl⟩ ?_ ?_
      · rintro acc _ ⟨h1, h2, e1, rfl, e2, rfl⟩
        cases h2 with
        | cons => cases e1
        | nil =>
          rw [List.append_nil] at e2
          rw [e2]
          (conv => whnf)
          intro M hM
          (conv => whnf)
          intro M2 hM2
          (conv => whnf)
          have hM6 : (σ6.set M (.list (intsD (negs gs)))) M = _ := Sto.set_same
          have nM : M ≠ M2 := neS hM2 hM6
          refine eqvD_g ⟨.list ((negs gs).map .int), .list [], ⟨.list ((Sto.set_ne nM).trans hM6) (ints_pd _), .list Sto.set_same Pd.nil, shl_ints _, rfl⟩, ?_⟩
          have la := (SLe.upd (x := .list (intsD (negs gs))) SLe.rfl hM)
          have lb := la.upd (x := .list []) (none_of_le la hM2)
          have hR := lb _ _ hR6
          have hT := lb _ _ hT6
          have hst := lb _ _ hst6
          have hS := hS6.le lb
          have lz := lz6.trans (.of lb)
          have ec : cleanD gs = match negs gs with | _ :: _ => [] | [] => if gs.sum = 0 then [] else gs := rfl
          cases en : negs gs with
          | cons z zs =>
            rw [en] at ec
            rw [en] at hR hT hst hS lz
            (conv => whnf)
            refine brn_t ?_
            (conv => whnf)
            refine brn_t ?_
            rw [ec] at hst
            (repeat (first | wtm_at "vc0" | ((conv => whnf); wtm_at "vc0")))
            (conv => whnf)
            refine c_grains (k := 20) (by omega) (bmx bw) (bl9.le (by omega)) ?_
            (repeat (first | wtm_at "vc0" | ((conv => whnf); wtm_at "vc0")))
            (conv => whnf)
            refine c_grains (k := 20) (by omega) bs (bl9.le (by omega)) ?_
            (repeat (first | wtm_at "vc0" | ((conv => whnf); wtm_at "vc0")))
            (conv => whnf)
            refine brn_eq (ne_self rfl) (brn_f ?_)
            (repeat (first | wtm_at "vc0" | ((conv => whnf); wtm_at "vc0")))
            have fb := fl.bn
            have fq := fl.bd
            have fp := fl.pos
            have f100 := (val_eq_iff fl.pos (by decide)).mp fl.v
            (repeat (first | wtm_at "vc0" | ((conv => whnf); wtm_at "vc0")))
            (conv => whnf)
            refine brn_eq (decn f100) (brn_f ?_)
            (repeat (first | wtm_at "vc0" | ((conv => whnf); wtm_at "vc0")))
            (conv => whnf)
            refine brn_eq (decide_eq_false (by omega)) (brn_f ?_)
            (repeat (first | wtm_at "vc0" | ((conv => whnf); wtm_at "vc0")))
            (conv => whnf)
            refine som_i (o := look fs "stroke-linejoin") L.j ?_
            (repeat (first | wtm_at "vc0" | ((conv => whnf); wtm_at "vc0")))
            (conv => whnf)
            refine som_i (o := look fs "stroke-linecap") L.c ?_
            (conv => whnf)
            refine eqvD_g ⟨.tuple [.str sj, .str sc], .tuple [.str sj, .str sc], ⟨.cons (.str _) (.cons (.str _) .nil), .cons (.str _) (.cons (.str _) .nil), sh_str2 kj kc, sh_str2 kj kc⟩, ?_⟩
            rw [eq_self' (lay_str2 kj kc)]
            exact h _ hS lz
          | nil =>
            rw [en] at ec
            rw [en] at hR hT hst hS lz
            (conv => whnf)
            refine brn_f ?_
            (conv => whnf)
            refine Exists.intro gs (And.intro rfl ?_)
            (conv => whnf)
            refine brn_ (fun q => ?_) (fun q => ?_)
            · have q : decide (gs.sum = 0) = true := q
              rw [if_pos (of_decide_eq_true q)] at ec
              (conv => whnf)
              refine brn_t ?_
              rw [ec] at hst
              (repeat (first | wtm_at "vc0" | ((conv => whnf); wtm_at "vc0")))
              (conv => whnf)
              refine c_grains (k := 20) (by omega) (bmx bw) (bl9.le (by omega)) ?_
              (repeat (first | wtm_at "vc0" | ((conv => whnf); wtm_at "vc0")))
              (conv => whnf)
              refine c_grains (k := 20) (by omega) bs (bl9.le (by omega)) ?_
              (repeat (first | wtm_at "vc0" | ((conv => whnf); wtm_at "vc0")))
              (conv => whnf)
              refine brn_eq (ne_self rfl) (brn_f ?_)
              (repeat (first | wtm_at "vc0" | ((conv => whnf); wtm_at "vc0")))
              have fb := fl.bn
              have fq := fl.bd
              have fp := fl.pos
              have f100 := (val_eq_iff fl.pos (by decide)).mp fl.v
              (repeat (first | wtm_at "vc0" | ((conv => whnf); wtm_at "vc0")))
              (conv => whnf)
              refine brn_eq (decn f100) (brn_f ?_)
              (repeat (first | wtm_at "vc0" | ((conv => whnf); wtm_at "vc0")))
              (conv => whnf)
              refine brn_eq (decide_eq_false (by omega)) (brn_f ?_)
              (repeat (first | wtm_at "vc0" | ((conv => whnf); wtm_at "vc0")))
              (conv => whnf)
              refine som_i (o := look fs "stroke-linejoin") L.j ?_
              (repeat (first | wtm_at "vc0" | ((conv => whnf); wtm_at "vc0")))
              (conv => whnf)
              refine som_i (o := look fs "stroke-linecap") L.c ?_
              (conv => whnf)
              refine eqvD_g ⟨.tuple [.str sj, .str sc], .tuple [.str sj, .str sc], ⟨.cons (.str _) (.cons (.str _) .nil), .cons (.str _) (.cons (.str _) .nil), sh_str2 kj kc, sh_str2 kj kc⟩, ?_⟩
              rw [eq_self' (lay_str2 kj kc)]
              exact h _ hS lz
            · have q : decide (gs.sum = 0) = false := q
              rw [if_neg (of_decide_eq_false q)] at ec
              (conv => whnf)
              refine brn_f ?_
              rw [ec] at hst
              (repeat (first | wtm_at "vc0" | ((conv => whnf); wtm_at "vc0")))
              (conv => whnf)
              refine c_grains (k := 20) (by omega) (bmx bw) (bl9.le (by omega)) ?_
              (repeat (first | wtm_at "vc0" | ((conv => whnf); wtm_at "vc0")))
              (conv => whnf)
              refine c_grains (k := 20) (by omega) bs (bl9.le (by omega)) ?_
              (repeat (first | wtm_at "vc0" | ((conv => whnf); wtm_at "vc0")))
              (conv => whnf)
              refine brn_eq (ne_self rfl) (brn_f ?_)
              (repeat (first | wtm_at "vc0" | ((conv => whnf); wtm_at "vc0")))
              refine eqvD_g ⟨.tuple (gs.map .int), .tuple (gs.map .int), ⟨ints_pd gs, ints_pd gs, sht_ints _, sht_ints _⟩, ?_⟩
              (conv => whnf)
              refine brn_eq (ne_self (lay_tup _)) (brn_f ?_)
              have fb := fl.bn
              have fq := fl.bd
              have fp := fl.pos
              have f100 := (val_eq_iff fl.pos (by decide)).mp fl.v
              (repeat (first | wtm_at "vc0" | ((conv => whnf); wtm_at "vc0")))
              (conv => whnf)
              refine brn_eq (decn f100) (brn_f ?_)
              (repeat (first | wtm_at "vc0" | ((conv => whnf); wtm_at "vc0")))
              (conv => whnf)
              refine brn_eq (decide_eq_false (by omega)) (brn_f ?_)
              (repeat (first | wtm_at "vc0" | ((conv => whnf); wtm_at "vc0")))
              (conv => whnf)
              refine som_i (o := look fs "stroke-linejoin") L.j ?_
              (repeat (first | wtm_at "vc0" | ((conv => whnf); wtm_at "vc0")))
              (conv => whnf)
              refine som_i (o := look fs "stroke-linecap") L.c ?_
              (conv => whnf)
              refine eqvD_g ⟨.tuple [.str sj, .str sc], .tuple [.str sj, .str sc], ⟨.cons (.str _) (.cons (.str _) .nil), .cons (.str _) (.cons (.str _) .nil), sh_str2 kj kc, sh_str2 kj kc⟩, ?_⟩
              rw [eq_self' (lay_str2 kj kc)]
              exact h _ hS lz
      · rintro d ds' acc _ ⟨h1, h2, e1, rfl, e2, rfl⟩
        cases h2 with
        | nil => cases e1
        | cons i h2 =>
          obtain ⟨rfl, rfl⟩ := List.cons.inj e1
          (conv => whnf)
          refine brn_ (fun q => ?_) (fun q => ?_)
          · (conv => whnf)
            refine ⟨h1 ++ [i], h2, rfl, ?_, by rw [List.append_assoc]; exact e2, rfl⟩
            rw [intsD_snoc, negs_snoc, negs_pos q]
          · (conv => whnf)
            refine ⟨h1 ++ [i], h2, rfl, ?_, by rw [List.append_assoc]; exact e2, rfl⟩
            rw [negs_snoc, negs_neg q, List.append_nil]
  · rintro d ds acc _ ⟨u1, u2, rfl, e2, e3, rfl⟩
    cases u2 with
    | nil => cases e2
    | cons p u2 =>
      obtain ⟨rfl, rfl⟩ := List.cons.inj e2
      have bp := bp p (e3 ▸ List.mem_append_right _ List.mem_cons_self)
      (conv => whnf)
      refine c_grains (k := 20) (by omega) bp (bl9.le (by omega)) ?_
      (conv => whnf)
      exact ⟨u1 ++ [p], u2, by rw [List.map_append]; exact intsD_snoc _ _, rfl, by rw [List.append_assoc]; exact e3, rfl⟩
end
end
section
set_option backward.match.sparseCases false
theorem nt0 {H : Int} (h : 1 ≤ H) : 1 + (((H + 2) - 1).toNat : Int) = H + 2 := by omega
theorem nt_end {k H : Int} {a v : Nat} (k2 : k + ((0 : Nat) : Int) = H + 2) (e2 : a = min (k - 1).toNat v) (s : (v : Int) ≤ H) : a = v := by omega
theorem nt_big {H : Int} {a v : Nat} (e : a = v) (s : (v : Int) ≤ H) (h : H ≤ 900) : Nat.ble a 1000 = true := Nat.ble_eq.mpr (by omega)
theorem nt_bk {k H : Int} {m : Nat} (k1 : 1 ≤ k) (k2 : k + ((m + 1 : Nat) : Int) = H + 2) (h : H ≤ 900) : Bd 10 k := by unfold Bd; omega
theorem nt_b2 {k : Int} (h : Bd 10 k) : Bd 12 (2 * k - 1) := by unfold Bd at *; omega
theorem pow_side {x : Int} {k : Nat} (b : Bd k x) (h : k ≤ 100 := by decide) : (Builtin.Int.intBits x : Int) * 2 ≤ 2 ^ 27 := by have := b.bits; omega
theorem nt_k1 {k : Int} (h : 1 ≤ k) : 1 ≤ k + 1 := by omega
theorem nt_k2 {k H : Int} {m : Nat} (k2 : k + ((m + 1 : Nat) : Int) = H + 2) : k + 1 + (m : Int) = H + 2 := by omega
theorem nt_t {k : Int} {a v : Nat} (k1 : 1 ≤ k) (e2 : a = min (k - 1).toNat v) (q : k ≤ (v : Int)) : a + 1 = min (k + 1 - 1).toNat v := by omega
theorem nt_f {k : Int} {a v : Nat} (k1 : 1 ≤ k) (e2 : a = min (k - 1).toNat v) (q : ¬k ≤ (v : Int)) : a = min (k + 1 - 1).toNat v := by omega
theorem np_of {x H : Int} (hx : 0 < x) (h : 1 ≤ H) : ¬ 0 < -x * H := by rw [Int.neg_mul]; have := Int.mul_pos hx (show 0 < H by omega); omega
theorem pow2e {x : Int} : x ^ (Int.toNat 2) = x * x := by
  show x ^ 2 = _
  rw [Int.pow_succ, Int.pow_succ, Int.pow_zero, Int.one_mul]
theorem pow2 {k : Nat} {x : Int} (b : Bd k x) : Bd (k + k) (x ^ (Int.toNat 2)) := by
  rw [pow2e]
  exact b.mul b
theorem SLe.delN {σ σ' : Sto} {L : Addr} (h : SLe σ σ') (e : σ L = none) : SLe σ (σ'.del L) := fun a m ea => (Sto.del_ne (fun q => by rw [q, e] at ea; cases ea)).trans (h a m ea)
section
variable {w : World} {D : Nat} {σ : Sto} {Q : Dat → Sto → Prop}
theorem c_lawNormal {a b c d H u v : Int} (h1 : 1 ≤ H) (h9 : H ≤ 900) (ba : Bd 20 a) (bb : Bd 20 b) (bc : Bd 20 c) (bd : Bd 20 d) (hx : 0 < c - a) (hS : 0 < (c - a) * (c - a) + (d - b) * (d - b)) (hu : NRS ((d - b) * H) ((c - a) * (c - a) + (d - b) * (d - b)) u) (hv : NRS (-(c - a) * H) ((c - a) * (c - a) + (d - b) * (d - b)) v)
    (h : ∀ F σ', σ F = none → SLe σ σ' → σ' F = some (.list [.int u, .int v]) → Q (.val (.ref F)) σ') : CallP w (D + 4) (.ref 1163) [sp a b, sp c d, .int H] σ Q := by
  have bx : Bd 21 (c - a) := bc.sub ba
  have by' : Bd 21 (d - b) := bd.sub bb
  have bH : Bd 10 H := bd_in (by omega) (by omega)
  have bS : Bd 43 ((c - a) * (c - a) + (d - b) * (d - b)) := (bx.mul bx).add (by'.mul by')
  have bp1 : Bd 31 ((d - b) * H) := by'.mul bH
  have bp2 : Bd 31 (-(c - a) * H) := bx.neg.mul bH
  (refine CodeP.call ?_; (refine' enterW (n := 60) (vars0 := [("one", sp a b), ("other", sp c d), ("half", .int H)]) ?ho ?hc ?hb ?hs ?hh; (case ho => (show List.lookup _ (Mine.frame.heap_1 (World.params _)) = _; k_is)); (case hc => (show codeIn (Mine.frame.heap_1 (World.params _)) _ _ = true; k_is)); (case hb => exact bind3 fun _ _ _ => by kernel_rfl!); (case hs => exact rfl)))
  have su := nrs_small hS (sq_r _ _) h1 hu
  have sv := nrs_small hS (sq_l _ _) h1 hv
  have au := nrs_abs hS hu
  have av := nrs_abs hS hv
  have nu := nrs_val hS hu
  have nv := nrs_val hS hv
  have np : ¬ 0 < -(c - a) * H := np_of hx h1
  iterate 7 ((first | wtm_at "vc0" | ((conv => whnf); wtm_at "vc0")))
  rename_i F hF L hL
  have l0 : SLe σ (σ.set F (.list [])) := SLe.upd SLe.rfl hF
  have hF0 : (σ.set F (.list [])) F = some (.list []) := Sto.set_same
  generalize hZ : (σ.set F (.list [])) = Z at hL l0 hF0 ⊢
  have h0L := none_of_le l0 hL
  have l1 := SLe.delN (SLe.upd (x := .list [.int ((d - b) * H), .int (-(c - a) * H)]) l0 h0L) h0L
  have hF1 : ((Z.set L (.list [.int ((d - b) * H), .int (-(c - a) * H)])).del L) F = some (.list []) := (Sto.del_ne (neS hL hF0)).trans ((Sto.set_ne (neS hL hF0)).trans hF0)
  (conv => whnf)
  refine CmpX.inv (fun rest acc σ' => ∃ (k : Int) (m : Nat), 1 ≤ k ∧ k + m = H + 2 ∧ rest = rngDs k m ∧ acc.length = min (k - 1).toNat u.natAbs ∧ ((Z.set L (.list [.int ((d - b) * H), .int (-(c - a) * H)])).del L) = σ') ⟨1, _, Int.le_refl _, nt0 h1, rfl, (Nat.zero_min _).symm, rfl⟩ ?_ ?_
  · rintro acc _ ⟨k, m, k1, k2, e1, e2, rfl⟩
    cases m with
    | succ => cases e1
    | zero =>
      have e3 : acc.length = u.natAbs := nt_end k2 e2 su
      have e4 : Nat.ble acc.length 1000 = true := nt_big e3 su h9
      (conv => whnf)
      intro A hA
      (conv => whnf)
      refine ⟨acc, Sto.set_same, e4, ?_⟩
      rw [e3]
      (conv => whnf)
      have h0A := none_of_le l1 hA
      have l2 := SLe.upd (x := .list acc) l1 h0A
      have hF2 : (((Z.set L (.list [.int ((d - b) * H), .int (-(c - a) * H)])).del L).set A (.list acc)) F = some (.list []) := (Sto.set_ne (neS hA hF1)).trans hF1
      change _ ∧ _
      generalize hY : (((Z.set L (.list [.int ((d - b) * H), .int (-(c - a) * H)])).del L).set A (.list acc)) = Y at l2 hF2
      refine And.intro ⟨_, hF2⟩ ?_
      (conv => whnf)
      refine brn_ (fun q => ?_) (fun q => ?_)
      · have q := nu.1 (of_decide_eq_true q)
        iterate 2 ((first | wtm_at "vc0" | ((conv => whnf); wtm_at "vc0")))
        have hFu : (Y.set F (.list ([] ++ [.int (u.natAbs)]))) F = some (.list [.int u]) := Sto.set_same.trans (congrArg (fun z => some (MO.list [.int z])) q.symm)
        have l3 := SLe.upd (x := .list ([] ++ [.int (u.natAbs)])) l2 hF
        generalize Y.set F (.list ([] ++ [.int (u.natAbs)])) = Y2 at hFu l3 ⊢
        (first | wtm_at "vc0" | ((conv => whnf); wtm_at "vc0"))
        (conv => whnf)
        refine CmpX.inv (fun rest acc σ' => ∃ (k : Int) (m : Nat), 1 ≤ k ∧ k + m = H + 2 ∧ rest = rngDs k m ∧ acc.length = min (k - 1).toNat v.natAbs ∧ Y2 = σ') ⟨1, _, Int.le_refl _, nt0 h1, rfl, (Nat.zero_min _).symm, rfl⟩ ?_ ?_
        · rintro acc _ ⟨k, m, k1, k2, e1, e2, rfl⟩
          cases m with
          | succ => cases e1
          | zero =>
            have e3 : acc.length = v.natAbs := nt_end k2 e2 sv
            have e4 : Nat.ble acc.length 1000 = true := nt_big e3 sv h9
            (conv => whnf)
            intro B hB
            (conv => whnf)
            refine ⟨acc, Sto.set_same, e4, ?_⟩
            rw [e3]
            (conv => whnf)
            have h0B := none_of_le l3 hB
            have l4 := SLe.upd (x := .list acc) l3 h0B
            have hF4 : (Y2.set B (.list acc)) F = some (.list [.int u]) := (Sto.set_ne (neS hB hFu)).trans hFu
            refine And.intro ⟨_, hF4⟩ ?_
            (conv => whnf)
            refine brn_eq (decide_eq_false np) (brn_f ?_)
            have q2 := nv.2 np
            (repeat (first | wtm_at "vc0" | ((conv => whnf); wtm_at "vc0")))
            (conv => whnf)
            refine h F _ hF (SLe.upd (SLe.upd l4 hF) h0L) ((Sto.set_ne (neS hL hF0)).trans (Sto.set_same.trans (congrArg (fun z => some (MO.list [.int u, .int z])) q2.symm)))
        · rintro d ds acc _ ⟨k, m, k1, k2, e1, e2, rfl⟩
          cases m with
          | zero => cases e1
          | succ m =>
            obtain ⟨rfl, rfl⟩ := List.cons.inj e1
            have bk : Bd 10 k := nt_bk k1 k2 h9
            (repeat (first | wtm_at "vc0" | ((conv => whnf); wtm_at "vc0")))
            (conv => whnf)
            have b2 : Bd 12 (2 * k - 1) := nt_b2 bk
            refine And.intro ⟨by decide, pow_side b2⟩ ?_
            have bq : Bd 24 ((2 * k - 1) ^ (Int.toNat 2)) := pow2 b2
            (repeat (first | wtm_at "vc0" | ((conv => whnf); wtm_at "vc0")))
            (conv => whnf)
            have ak := av k k1
            rw [← pow2e] at ak
            refine brn_ (fun q => ?_) (fun q => ?_)
            · (conv => whnf)
              have q := ak.mp (of_decide_eq_true q)
              exact ⟨k + 1, m, nt_k1 k1, nt_k2 k2, rfl, List.length_append.trans (nt_t k1 e2 q), rfl⟩
            · (conv => whnf)
              have q : ¬k ≤ (v.natAbs : Int) := fun e => of_decide_eq_false q (ak.mpr e)
              exact ⟨k + 1, m, nt_k1 k1, nt_k2 k2, rfl, nt_f k1 e2 q, rfl⟩
      · have q := nu.2 (of_decide_eq_false q)
        iterate 2 ((first | wtm_at "vc0" | ((conv => whnf); wtm_at "vc0")))
        have hFu : (Y.set F (.list ([] ++ [.int (-(u.natAbs : Int))]))) F = some (.list [.int u]) := Sto.set_same.trans (congrArg (fun z => some (MO.list [.int z])) q.symm)
        have l3 := SLe.upd (x := .list ([] ++ [.int (-(u.natAbs : Int))])) l2 hF
        generalize Y.set F (.list ([] ++ [.int (-(u.natAbs : Int))])) = Y2 at hFu l3 ⊢
        (first | wtm_at "vc0" | ((conv => whnf); wtm_at "vc0"))
        (conv => whnf)
        refine CmpX.inv (fun rest acc σ' => ∃ (k : Int) (m : Nat), 1 ≤ k ∧ k + m = H + 2 ∧ rest = rngDs k m ∧ acc.length = min (k - 1).toNat v.natAbs ∧ Y2 = σ') ⟨1, _, Int.le_refl _, nt0 h1, rfl, (Nat.zero_min _).symm, rfl⟩ ?_ ?_
        · rintro acc _ ⟨k, m, k1, k2, e1, e2, rfl⟩
          cases m with
          | succ => cases e1
          | zero =>
            have e3 : acc.length = v.natAbs := nt_end k2 e2 sv
            have e4 : Nat.ble acc.length 1000 = true := nt_big e3 sv h9
            (conv => whnf)
            intro B hB
            (conv => whnf)
            refine ⟨acc, Sto.set_same, e4, ?_⟩
            rw [e3]
            (conv => whnf)
            have h0B := none_of_le l3 hB
            have l4 := SLe.upd (x := .list acc) l3 h0B
            have hF4 : (Y2.set B (.list acc)) F = some (.list [.int u]) := (Sto.set_ne (neS hB hFu)).trans hFu
            refine And.intro ⟨_, hF4⟩ ?_
            (conv => whnf)
            refine brn_eq (decide_eq_false np) (brn_f ?_)
            have q2 := nv.2 np
            (repeat (first | wtm_at "vc0" | ((conv => whnf); wtm_at "vc0")))
            (conv => whnf)
            refine h F _ hF (SLe.upd (SLe.upd l4 hF) h0L) ((Sto.set_ne (neS hL hF0)).trans (Sto.set_same.trans (congrArg (fun z => some (MO.list [.int u, .int z])) q2.symm)))
        · rintro d ds acc _ ⟨k, m, k1, k2, e1, e2, rfl⟩
          cases m with
          | zero => cases e1
          | succ m =>
            obtain ⟨rfl, rfl⟩ := List.cons.inj e1
            have bk : Bd 10 k := nt_bk k1 k2 h9
            (repeat (first | wtm_at "vc0" | ((conv => whnf); wtm_at "vc0")))
            (conv => whnf)
            have b2 : Bd 12 (2 * k - 1) := nt_b2 bk
            refine And.intro ⟨by decide, pow_side b2⟩ ?_
            have bq : Bd 24 ((2 * k - 1) ^ (Int.toNat 2)) := pow2 b2
            (repeat (first | wtm_at "vc0" | ((conv => whnf); wtm_at "vc0")))
            (conv => whnf)
            have ak := av k k1
            rw [← pow2e] at ak
            refine brn_ (fun q => ?_) (fun q => ?_)
            · (conv => whnf)
              have q := ak.mp (of_decide_eq_true q)
              exact ⟨k + 1, m, nt_k1 k1, nt_k2 k2, rfl, List.length_append.trans (nt_t k1 e2 q), rfl⟩
            · (conv => whnf)
              have q : ¬k ≤ (v.natAbs : Int) := fun e => of_decide_eq_false q (ak.mpr e)
              exact ⟨k + 1, m, nt_k1 k1, nt_k2 k2, rfl, nt_f k1 e2 q, rfl⟩
  · rintro d ds acc _ ⟨k, m, k1, k2, e1, e2, rfl⟩
    cases m with
    | zero => cases e1
    | succ m =>
      obtain ⟨rfl, rfl⟩ := List.cons.inj e1
      have bk : Bd 10 k := nt_bk k1 k2 h9
      (repeat (first | wtm_at "vc0" | ((conv => whnf); wtm_at "vc0")))
      (conv => whnf)
      have b2 : Bd 12 (2 * k - 1) := nt_b2 bk
      refine And.intro ⟨by decide, pow_side b2⟩ ?_
      have bq : Bd 24 ((2 * k - 1) ^ (Int.toNat 2)) := pow2 b2
      (repeat (first | wtm_at "vc0" | ((conv => whnf); wtm_at "vc0")))
      (conv => whnf)
      have ak := au k k1
      rw [← pow2e] at ak
      refine brn_ (fun q => ?_) (fun q => ?_)
      · (conv => whnf)
        have q := ak.mp (of_decide_eq_true q)
        exact ⟨k + 1, m, nt_k1 k1, nt_k2 k2, rfl, List.length_append.trans (nt_t k1 e2 q), rfl⟩
      · (conv => whnf)
        have q : ¬k ≤ (u.natAbs : Int) := fun e => of_decide_eq_false q (ak.mpr e)
        exact ⟨k + 1, m, nt_k1 k1, nt_k2 k2, rfl, nt_f k1 e2 q, rfl⟩
end
end
section
set_option backward.match.sparseCases false
section
variable {w : World} {D : Nat} {σ : Sto} {Q : Dat → Sto → Prop}
theorem c_lawSensed {P : Addr} {x1 y1 x2 y2 x3 y3 x4 y4 : Int} (hP : σ P = some (.list [sp x1 y1, sp x2 y2, sp x3 y3, sp x4 y4])) (b1 : Bd 40 x1) (b2 : Bd 40 y1) (b3 : Bd 40 x2) (b4 : Bd 40 y2) (b5 : Bd 40 x3) (b6 : Bd 40 y3) (b7 : Bd 40 x4) (b8 : Bd 40 y4)
    (n1 : ¬(x2 = x1 ∧ y2 = y1)) (n2 : ¬(x3 = x2 ∧ y3 = y2)) (n3 : ¬(x4 = x3 ∧ y4 = y3)) (n4 : ¬(x4 = x1 ∧ y4 = y1)) (ha : 0 < 0 + (x2 - x1) * (y3 - y1) - (y2 - y1) * (x3 - x1) + (x3 - x1) * (y4 - y1) - (y3 - y1) * (x4 - x1))
    (h : ∀ σ', SLe σ σ' → Q (.tup [sp x1 y1, sp x2 y2, sp x3 y3, sp x4 y4]) σ') : CallP w (D + 4) (.ref 1168) [.val (.ref P)] σ Q := by
  (refine CodeP.call ?_; (refine' enterW (n := 60) (vars0 := [("spots", .val (.ref P))]) ?ho ?hc ?hb ?hs ?hh; (case ho => (show List.lookup _ (Mine.frame.heap_1 (World.params _)) = _; k_is)); (case hc => (show codeIn (Mine.frame.heap_1 (World.params _)) _ _ = true; k_is)); (case hb => exact bind1 fun _ => by kernel_rfl!); (case hs => exact rfl)))
  (repeat (first | wtm_at "vc0" | ((conv => whnf); wtm_at "vc0")))
  refine brn_eq (ne_sp n1) (brn_t ?_)
  (repeat (first | wtm_at "vc0" | ((conv => whnf); wtm_at "vc0")))
  refine brn_eq (ne_sp n2) (brn_t ?_)
  (repeat (first | wtm_at "vc0" | ((conv => whnf); wtm_at "vc0")))
  refine brn_eq (ne_sp n3) (brn_t ?_)
  (repeat (first | wtm_at "vc0" | ((conv => whnf); wtm_at "vc0")))
  rename_i F hF
  refine whl (fun n v s' => n = 0 ∧ v = ([("found", .val (.ref F)), ("spots", .val (.ref P))] : Vars) ∧ s' = _) 0 [("found", .val (.ref F)), ("spots", .val (.ref P))] ?_ ⟨rfl, rfl, rfl⟩ ?_
  · exact ⟨rfl, rfl, trivial⟩
  rintro _ _ _ ⟨rfl, rfl, rfl⟩
  (repeat (first | wtm_at "vc0" | ((conv => whnf); wtm_at "vc0")))
  refine brn_eq (eq_sp n4) (brn_f ?_)
  iterate 4 ((first | wtm_at "vc0" | ((conv => whnf); wtm_at "vc0")))
  refine And.intro rfl ?_
  (conv => whnf)
  refine And.intro ⟨by decide, by decide, by simp, by simp⟩ ?_
  (repeat (first | wtm_at "vc0" | ((conv => whnf); wtm_at "vc0")))
  (conv => whnf)
  refine brn_eq (decide_eq_false (Int.ne_of_gt ha)) (brn_f ?_)
  (conv => whnf)
  refine brn_eq (decide_eq_true ha) (brn_t ?_)
  (repeat (first | wtm_at "vc0" | ((conv => whnf); wtm_at "vc0")))
  exact h _ (by repeat' (first | exact SLe.rfl | with_reducible assumption | refine SLe.upd ?_ ?_ | apply none_of_set))
end
end
section
set_option backward.match.sparseCases false
section
variable {w : World} {D : Nat} {σ : Sto} {Q : Dat → Sto → Prop}
theorem c_lawLed {P : Addr} {z1 z2 z3 z4 z5 z6 x y l g : Int} (hP : σ P = some (.list [.int z1, .int z2, .int z3, .int z4, .int z5, .int z6])) (b1 : Bd 20 z1) (b2 : Bd 20 z2) (b3 : Bd 20 z3) (b4 : Bd 20 z4) (b5 : Bd 20 z5) (b6 : Bd 20 z6)
    (bx : Bd 40 x) (by' : Bd 40 y) (bl : Bd 20 l) (bg : Bd 20 g) (hl : 0 < l) (h : ∀ σ', SLe σ σ' → Q (sp (LedI z1 z3 z5 x y l g) (LedI z2 z4 z6 x y l g)) σ') : CallP w (D + 4) (.ref 1206) [.val (.ref P), sp x y, .int l, .int g] σ Q := by
  have hq : ∀ n : Int, 2 * (2 * l) ≠ 0 ∧ Builtin.divisionGoesByPylong n (2 * (2 * l)) = false := fun n => ⟨by omega, ((Bd.lit (k := 2) (by decide)).mul ((Bd.lit (k := 2) (by decide)).mul bl)).py (by decide)⟩
  have s1 : Bd 62 (z1 * x + z3 * y + z5 * l) := ((Bd.add (b1.mul bx) (b3.mul by')).add ((b5.mul bl).le (by decide)))
  have s2 : Bd 62 (z2 * x + z4 * y + z6 * l) := ((Bd.add (b2.mul bx) (b4.mul by')).add ((b6.mul bl).le (by decide)))
  have s3 : Bd 82 ((z1 * x + z3 * y + z5 * l) * g) := s1.mul bg
  have s4 : Bd 82 ((z2 * x + z4 * y + z6 * l) * g) := s2.mul bg
  (refine CodeP.call ?_; (refine' enterW (n := 60) (vars0 := [("parts", .val (.ref P)), ("dot_p", sp x y), ("local", .int l), ("grain", .int g)]) ?ho ?hc ?hb ?hs ?hh; (case ho => (show List.lookup _ (Mine.frame.heap_1 (World.params _)) = _; k_is)); (case hc => (show codeIn (Mine.frame.heap_1 (World.params _)) _ _ = true; k_is)); (case hb => exact bind4 fun _ _ _ _ => by kernel_rfl!); (case hs => exact rfl)))
  (repeat (first | wtm_at "vc0" | ((conv => whnf); wtm_at "vc0")))
  (conv => whnf)
  refine And.intro (hq _) ?_
  (repeat (first | wtm_at "vc0" | ((conv => whnf); wtm_at "vc0")))
  (conv => whnf)
  refine And.intro (hq _) ?_
  (repeat (first | wtm_at "vc0" | ((conv => whnf); wtm_at "vc0")))
  exact h _ (by repeat' (first | exact SLe.rfl | with_reducible assumption | refine SLe.upd ?_ ?_ | apply none_of_set))
end
end
section
set_option backward.match.sparseCases false
theorem if_join {k : W} {sc : List (Str × NameKind)} {body : List Stmt} {v : Vars} {σ : Sto} {b : Bool} {K : Fl → Vars → Sto → Prop} (M : Sto → Prop) (h1 : b = true → ∀ K' : Fl → Vars → Sto → Prop, (∀ σ', M σ' → K' .next v σ') → wpB k sc body v σ K') (h2 : b = false → M σ) (h : ∀ σ', M σ' → K .next v σ') : brn b (wpB k sc body v σ K) (wpB k sc [] v σ K) :=
  ⟨fun e => h1 e K h, fun e => h σ (h2 e)⟩
structure PartsOk (σ : Sto) (S P : Addr) (Z : Sto) : Prop where
  p : ∃ z1 z2 z3 z4 z5 z6 : Int, (-8 ≤ z1 ∧ z1 ≤ 8) ∧ (-8 ≤ z2 ∧ z2 ≤ 8) ∧ (-8 ≤ z3 ∧ z3 ≤ 8) ∧ (-8 ≤ z4 ∧ z4 ≤ 8) ∧ (-8 ≤ z5 ∧ z5 ≤ 8) ∧ (-8 ≤ z6 ∧ z6 ≤ 8) ∧ Z P = some (.list [.int z1, .int z2, .int z3, .int z4, .int z5, .int z6])
  s : Src Z S
  x : SLx S σ Z
theorem m49 {i : Int} (h1 : 0 ≤ i) (h2 : i < 9) : -8 ≤ i - 4 ∧ i - 4 ≤ 8 := by omega
theorem d49 {i : Int} (h1 : 0 ≤ i) (h2 : i < 9) : -8 ≤ 2 * (i - 4) ∧ 2 * (i - 4) ≤ 8 := by omega
theorem eg_of {i : Int} (h1 : 0 ≤ i) (h2 : i < 4) : 1 ≤ 1 + i ∧ 1 + i ≤ 4 := by omega
theorem en_of {i : Int} (h1 : 0 ≤ i) (h2 : i < 5) : 2 ≤ 2 + i ∧ 2 + i ≤ 6 := by omega
theorem ex_of {i j : Int} (h1 : 0 ≤ i) (h2 : i < 9) (h3 : 0 ≤ j) (h4 : j < 5) : i < i + 1 + j ∧ 0 ≤ i ∧ i + 1 + j < 100 := by omega
theorem ey_of {i j : Int} (h1 : 0 ≤ i) (h2 : i < 9) (h3 : 0 ≤ j) (h4 : j < 9) : -10 ≤ i + j - 4 ∧ i + j - 4 < 100 := by omega
theorem lp_of {g r : Int} (eg : 1 ≤ g ∧ g ≤ 4) (r1 : 1 ≤ r) (r6 : r ≤ 6) : 1 ≤ g * r ∧ g * r ≤ 24 := by
  have a := Int.mul_le_mul eg.1 r1 (by decide) (by omega)
  have b := Int.mul_le_mul eg.2 r6 (by omega) (by decide)
  omega
theorem nl_of {n l : Int} (en : 2 ≤ n ∧ n ≤ 6) (l1 : 1 ≤ l) (l2 : l ≤ 24) : 1 ≤ (n * l).fdiv 2 ∧ (n * l).fdiv 2 ≤ 900 := by
  have a : 2 * 1 ≤ n * l := Int.mul_le_mul en.1 l1 (by decide) (by omega)
  have b : n * l ≤ 6 * 24 := Int.mul_le_mul en.2 l2 (by omega) (by decide)
  rw [Int.fdiv_eq_ediv_of_nonneg _ (by decide)]; omega
theorem nz_of {x : Int} (h : ¬x = 0) : ¬(x.natAbs : Int) = 0 := by omega
theorem a8 {a : Int} (h : -8 ≤ a ∧ a ≤ 8) : a.natAbs ≤ 8 := by omega
theorem ar2 {x y : Int} (h1 : x.natAbs ≤ 64) (h2 : y.natAbs ≤ 64) : (x - y).natAbs ≤ 128 := by omega
theorem ar_le {a b c d : Int} (h1 : -8 ≤ a ∧ a ≤ 8) (h2 : -8 ≤ b ∧ b ≤ 8) (h3 : -8 ≤ c ∧ c ≤ 8) (h4 : -8 ≤ d ∧ d ≤ 8) : (a * d - b * c).natAbs ≤ 128 :=
  ar2 (by rw [Int.natAbs_mul]; exact Nat.mul_le_mul (a8 h1) (a8 h4)) (by rw [Int.natAbs_mul]; exact Nat.mul_le_mul (a8 h2) (a8 h3))
theorem notd {p : Prop} [Decidable p] (h : p) : (!decide p) = false := by rw [decide_eq_true h]; rfl
theorem Src.mv {σ σ' : Sto} {S : Addr} (h : Src σ S) (l : ∀ a m, True → σ a = some m → σ' a = some m) : Src σ' S :=
  let ⟨a, b, a0, b0, b1, hS⟩ := h.at_
  ⟨a, b, a0, b0, b1, l _ _ trivial hS⟩
theorem lineLook {n : Int} (b : Bd 8 (0 : Int)) (m : menuB (Str.ofString (toString n)) (100 * n) = true) : LookW (mergeD [("stroke-width", .str (Str.ofString (toString n))), ("stroke-dashoffset", .str "0"), ("stroke-miterlimit", .str "4"), ("font-size", .str "16")] [("stroke-dasharray", .str "none"), ("stroke-linejoin", .str "bevel"), ("stroke-linecap", .str "butt")]) 1 (100 * n) 0 400 [] (Str.ofString (toString n)) "0" "4" "none" "bevel" "butt" :=
  have z : menuB (Str.ofString "0") 0 = true := by decide +kernel
  have f : menuB (Str.ofString "4") 400 = true := by decide +kernel
  ⟨rfl, rfl, rfl, rfl, rfl, rfl, rfl, (LenM.of m).t, clnB_sl (LenM.of (W := 1) m).c, (LenM.of z).t, clnB_sl (LenM.of (W := 1) z).c, menu_num f, .inl ⟨rfl, rfl⟩, Nat.zero_le _⟩
theorem StrOk.one {z1 z2 z3 z4 i k : Int} (h : StrOk z1 z2 z3 z4 i) (h' : StrOk z1 z2 z3 z4 k) : i = k := by
  obtain ⟨a1, a2, a3⟩ := h
  obtain ⟨b1, b2, b3⟩ := h'
  rcases Int.lt_trichotomy i k with q | q | q
  · have : i * i ≤ (k - 1) * (k - 1) := Int.mul_le_mul (by omega) (by omega) (by omega) (by omega)
    omega
  · exact q
  · have : k * k ≤ (i - 1) * (i - 1) := Int.mul_le_mul (by omega) (by omega) (by omega) (by omega)
    omega
theorem pd_told {σ : Sto} (a b c d e f g h : Int) : Pd σ (.tup [.tup [.tup [sp a b, sp c d, sp e f, sp g h], .val (.bool true)]]) (.tuple [.tuple [.tuple [.tuple [.int a, .int b], .tuple [.int c, .int d], .tuple [.int e, .int f], .tuple [.int g, .int h]], .bool true]]) :=
  have s : ∀ x y : Int, Pd σ (sp x y) (.tuple [.int x, .int y]) := fun x y => .cons (.int x) (.cons (.int y) .nil)
  .cons (.cons (.cons (s a b) (.cons (s c d) (.cons (s e f) (.cons (s g h) .nil)))) (.cons (.bool true) .nil)) .nil
theorem bd20 {z : Int} (h : -8 ≤ z ∧ z ≤ 8) : Bd 20 z := by
  unfold Bd
  omega
section
variable {w : World} {D : Nat} {σ : Sto} {Q : Dat → Sto → Prop}
set_option maxHeartbeats 2000000 in
theorem c_lawLine {S : Addr} (hS : Src σ S) (h : ∀ σ', Src σ' S → SLx S σ σ' → Q (.val (.bool true)) σ') : CallP w (D + 32) (.ref 1211) [.val (.ref S)] σ Q := by
  (refine CodeP.call ?_; (refine' enterW (n := 60) (vars0 := [("source", .val (.ref S))]) ?ho ?hc ?hb ?hs ?hh; (case ho => (show List.lookup _ (Mine.frame.heap_1 (World.params _)) = _; k_is)); (case hc => (show codeIn (Mine.frame.heap_1 (World.params _)) _ _ = true; k_is)); (case hb => exact bind1 fun _ => by kernel_rfl!); (case hs => exact rfl)))
  (repeat (first | wtm_at "vc0" | ((conv => whnf); wtm_at "vc0")))
  (conv => whnf)
  refine c_take hS (by decide) (by decide) fun i1 σ1 p1 q1 S1 l1 => ?_
  (repeat (first | wtm_at "vc0" | ((conv => whnf); wtm_at "vc0")))
  (conv => whnf)
  refine c_take S1 (by decide) (by decide) fun i2 σ2 p2 q2 S2 l2 => ?_
  (repeat (first | wtm_at "vc0" | ((conv => whnf); wtm_at "vc0")))
  (conv => whnf)
  refine c_take S2 (by decide) (by decide) fun i3 σ3 p3 q3 S3 l3 => ?_
  (repeat (first | wtm_at "vc0" | ((conv => whnf); wtm_at "vc0")))
  (conv => whnf)
  refine c_take S3 (by decide) (by decide) fun i4 σ4 p4 q4 S4 l4 => ?_
  (repeat (first | wtm_at "vc0" | ((conv => whnf); wtm_at "vc0")))
  (conv => whnf)
  refine c_take S4 (by decide) (by decide) fun i5 σ5 p5 q5 S5 l5 => ?_
  (repeat (first | wtm_at "vc0" | ((conv => whnf); wtm_at "vc0")))
  (conv => whnf)
  refine c_take S5 (by decide) (by decide) fun i6 σ6 p6 q6 S6 l6 => ?_
  (repeat (first | wtm_at "vc0" | ((conv => whnf); wtm_at "vc0")))
  (conv => whnf)
  rename_i P hP
  have l6 := ((((l1.trans l2).trans l3).trans l4).trans l5).trans l6
  have nP := (S6.new (x := .held) hP).2
  have S7 := (S6.new (x := .list [.int (i1 - 4), .int (i2 - 4), .int (i3 - 4), .int (i4 - 4), .int (i5 - 4), .int (i6 - 4)]) hP).1
  have l7 := l6.trans (SLx.new (x := .list [.int (i1 - 4), .int (i2 - 4), .int (i3 - 4), .int (i4 - 4), .int (i5 - 4), .int (i6 - 4)]) hP)
  have h0P := none_of_lx l6 nP hP
  have hP7 : (σ6.set P (.list [.int (i1 - 4), .int (i2 - 4), .int (i3 - 4), .int (i4 - 4), .int (i5 - 4), .int (i6 - 4)])) P = _ := Sto.set_same
  change CallP _ _ _ _ (σ6.set P (.list [.int (i1 - 4), .int (i2 - 4), .int (i3 - 4), .int (i4 - 4), .int (i5 - 4), .int (i6 - 4)])) _
  generalize σ6.set P (.list [.int (i1 - 4), .int (i2 - 4), .int (i3 - 4), .int (i4 - 4), .int (i5 - 4), .int (i6 - 4)]) = σ7 at S7 l7 hP7 ⊢
  refine c_take S7 (by decide) (by decide) fun i8 σ8 p8 q8 S8 l8 => ?_
  have hP8 := l8 _ _ nP hP7
  have l8 := l7.trans l8
  (conv => whnf)
  refine if_join (fun Z => PartsOk σ S P Z) (fun _ K' hK => ?_) (fun _ => ⟨⟨_, _, _, _, _, _, m49 p1 q1, m49 p2 q2, m49 p3 q3, m49 p4 q4, m49 p5 q5, m49 p6 q6, hP8⟩, S8, l8⟩) ?_
  · have m1 : Bd 20 (i1 - 4) := bd20 (m49 p1 q1)
    have m2 : Bd 20 (i2 - 4) := bd20 (m49 p2 q2)
    (repeat (first | wtm_at "vc0" | ((conv => whnf); wtm_at "vc0")))
    (conv => whnf)
    exact hK _ ⟨⟨i1 - 4, i2 - 4, 2 * (i1 - 4), 2 * (i2 - 4), i5 - 4, i6 - 4, m49 p1 q1, m49 p2 q2, d49 p1 q1, d49 p2 q2, m49 p5 q5, m49 p6 q6, Sto.set_same⟩, (S8.put nP).put nP, SLx.upd (SLx.upd l8 h0P) h0P⟩
  rintro Z ⟨⟨z1, z2, z3, z4, z5, z6, k1, k2, k3, k4, k5, k6, hPZ⟩, SZ, lZ⟩
  clear hP7 hP8 S8 l8 S7 l7
  have m1 := bd20 k1
  have m2 := bd20 k2
  have m3 := bd20 k3
  have m4 := bd20 k4
  have m5 := bd20 k5
  have m6 := bd20 k6
  (repeat (first | wtm_at "vc0" | ((conv => whnf); wtm_at "vc0")))
  (conv => whnf)
  refine k_Matrix fun xm mm hmm => ?_
  have SM := (SZ.new (x := mxNs (sp z1 2) (sp z2 2) (sp z3 2) (sp z4 2) (sp z5 2) (sp z6 2)) hmm).1
  have lM := lZ.trans (SLx.new (x := mxNs (sp z1 2) (sp z2 2) (sp z3 2) (sp z4 2) (sp z5 2) (sp z6 2)) hmm)
  have nmm := (SZ.new (x := .held) hmm).2
  have hPM := (Sto.set_ne (o := mxNs (sp z1 2) (sp z2 2) (sp z3 2) (sp z4 2) (sp z5 2) (sp z6 2)) (neS hmm hPZ)).trans hPZ
  have hM := Sto.set_same (σ := Z) (a := mm) (o := mxNs (sp z1 2) (sp z2 2) (sp z3 2) (sp z4 2) (sp z5 2) (sp z6 2))
  generalize Z.set mm (mxNs (sp z1 2) (sp z2 2) (sp z3 2) (sp z4 2) (sp z5 2) (sp z6 2)) = Y at SM lM hPM hM ⊢
  (repeat (first | wtm_at "vc0" | ((conv => whnf); wtm_at "vc0")))
  (conv => whnf)
  refine c_stretch (j := 20) (by omega) hM (half2 z1 m1) (half2 z2 m2) (half2 z3 m3) (half2 z4 m4) fun p q r f2 hr => ?_
  have hr := str_ok f2.pos f2.v hr
  generalize 1 + r = r at hr ⊢
  have hz : (z1 * z4 - z2 * z3).natAbs ≤ 128 := ar_le k1 k2 k3 k4
  obtain ⟨r1, r6⟩ := hr.le hz
  have br : Bd 10 (r - 1) := bd_r (a := 0) (b := 5) ⟨Int.sub_nonneg_of_le r1, Int.sub_le_sub_right r6 1⟩
  have br2 : Bd 10 r := bd_r ⟨r1, r6⟩
  (conv => whnf)
  refine And.intro ⟨by decide, pow_side br⟩ ?_
  (repeat (first | wtm_at "vc0" | ((conv => whnf); wtm_at "vc0")))
  (conv => whnf)
  refine brn_eq (decide_eq_true (by rw [pow2e]; exact hr.1)) (brn_t ?_)
  (conv => whnf)
  refine And.intro ⟨by decide, pow_side br2⟩ ?_
  (conv => whnf)
  refine brn_eq (notd (by rw [pow2e]; exact hr.2.1)) (brn_f ?_)
  (repeat (first | wtm_at "vc0" | ((conv => whnf); wtm_at "vc0")))
  (conv => whnf)
  refine c_take SM (by decide) (by decide) fun i11 σ11 p11 q11 S11 l11 => ?_
  (repeat (first | wtm_at "vc0" | ((conv => whnf); wtm_at "vc0")))
  (conv => whnf)
  refine c_take S11 (by decide) (by decide) fun i12 σ12 p12 q12 S12 l12 => ?_
  (repeat (first | wtm_at "vc0" | ((conv => whnf); wtm_at "vc0")))
  (conv => whnf)
  refine c_take S12 (by decide) (by decide) fun i13 σ13 p13 q13 S13 l13 => ?_
  (repeat (first | wtm_at "vc0" | ((conv => whnf); wtm_at "vc0")))
  (conv => whnf)
  refine c_take S13 (by decide) (by decide) fun i14 σ14 p14 q14 S14 l14 => ?_
  (repeat (first | wtm_at "vc0" | ((conv => whnf); wtm_at "vc0")))
  (conv => whnf)
  refine c_take S14 (by decide) (by decide) fun i15 σ15 p15 q15 S15 l15 => ?_
  (repeat (first | wtm_at "vc0" | ((conv => whnf); wtm_at "vc0")))
  (conv => whnf)
  refine c_take S15 (by decide) (by decide) fun i16 σ16 p16 q16 S16 l16 => ?_
  (repeat (first | wtm_at "vc0" | ((conv => whnf); wtm_at "vc0")))
  (conv => whnf)
  rename_i T hT
  have lY := ((((l11.trans l12).trans l13).trans l14).trans l15).trans l16
  have hM16 := lY _ _ nmm hM
  have hP16 := lY _ _ nP hPM
  have l16 := lM.trans lY
  have nT := (S16.new (x := .held) hT).2
  have nTM := Ne.symm (neS hT hM16)
  have nTP := Ne.symm (neS hT hP16)
  have h0T := none_of_lx l16 nT hT
  refine ⟨T, _, rfl, Sto.set_same, ?_⟩
  (conv => whnf)
  intro U hU
  refine ⟨U, _, _, rfl, (Sto.set_ne (neS hU Sto.set_same)).trans Sto.set_same, Sto.set_same, neS hU Sto.set_same, Nat.le_of_ble_eq_true rfl, ?_⟩
  have eg : 1 ≤ 1 + i15 ∧ 1 + i15 ≤ 4 := eg_of p15 q15
  have en : 2 ≤ 2 + i16 ∧ 2 + i16 ≤ 6 := en_of p16 q16
  have ex : i11 < i11 + 1 + i13 ∧ 0 ≤ i11 ∧ i11 + 1 + i13 < 100 := ex_of p11 q11 p13 q13
  have ey : -10 ≤ i12 + i14 - 4 ∧ i12 + i14 - 4 < 100 := ey_of p12 q12 p14 q14
  generalize 1 + i15 = g at eg ⊢
  generalize 2 + i16 = n at en hU ⊢
  generalize i11 + 1 + i13 = x2 at ex ⊢
  generalize i12 + i14 - 4 = y2 at ey ⊢
  have c1 : Bd 10 i11 := bd_r (a := 0) (b := 100) ⟨p11, Int.le_of_lt (Int.lt_trans q11 (by decide))⟩
  have c2 : Bd 10 i12 := bd_r (a := 0) (b := 100) ⟨p12, Int.le_of_lt (Int.lt_trans q12 (by decide))⟩
  have c3 : Bd 10 x2 := bd_r (a := 0) (b := 100) ⟨Int.le_trans ex.2.1 (Int.le_of_lt ex.1), Int.le_of_lt ex.2.2⟩
  have c4 : Bd 10 y2 := bd_r ⟨ey.1, Int.le_of_lt ey.2⟩
  have hTV := Sto.set_same (σ := (σ16.set T (.dict [("stroke-width", .str (Str.ofString (toString n))), ("stroke-dashoffset", .str "0"), ("stroke-miterlimit", .str "4"), ("font-size", .str "16")])).set U (.dict [("stroke-dasharray", .str "none"), ("stroke-linejoin", .str "bevel"), ("stroke-linecap", .str "butt")])) (a := T) (o := .dict (mergeD [("stroke-width", .str (Str.ofString (toString n))), ("stroke-dashoffset", .str "0"), ("stroke-miterlimit", .str "4"), ("font-size", .str "16")] [("stroke-dasharray", .str "none"), ("stroke-linejoin", .str "bevel"), ("stroke-linecap", .str "butt")]))
  have nTU : T ≠ U := neS hU Sto.set_same
  have st1 : ∀ a m, a ≠ T → σ16 a = some m → (((σ16.set T (.dict [("stroke-width", .str (Str.ofString (toString n))), ("stroke-dashoffset", .str "0"), ("stroke-miterlimit", .str "4"), ("font-size", .str "16")])).set U (.dict [("stroke-dasharray", .str "none"), ("stroke-linejoin", .str "bevel"), ("stroke-linecap", .str "butt")])).set T (.dict (mergeD [("stroke-width", .str (Str.ofString (toString n))), ("stroke-dashoffset", .str "0"), ("stroke-miterlimit", .str "4"), ("font-size", .str "16")] [("stroke-dasharray", .str "none"), ("stroke-linejoin", .str "bevel"), ("stroke-linecap", .str "butt")]))) a = some m := fun a m q e => (Sto.set_ne q).trans ((Sto.set_ne (fun e2 => by subst e2; rw [Sto.set_ne q] at hU; rw [hU] at e; cases e)).trans ((Sto.set_ne q).trans e))
  have hMV := st1 _ _ nTM.symm hM16
  have hPV := st1 _ _ nTP.symm hP16
  have SV := S16.mv fun a m q e => st1 a m (fun q2 => by subst q2; rw [hT] at e; cases e) e
  have lV : SLx S σ (((σ16.set T (.dict [("stroke-width", .str (Str.ofString (toString n))), ("stroke-dashoffset", .str "0"), ("stroke-miterlimit", .str "4"), ("font-size", .str "16")])).set U (.dict [("stroke-dasharray", .str "none"), ("stroke-linejoin", .str "bevel"), ("stroke-linecap", .str "butt")])).set T (.dict (mergeD [("stroke-width", .str (Str.ofString (toString n))), ("stroke-dashoffset", .str "0"), ("stroke-miterlimit", .str "4"), ("font-size", .str "16")] [("stroke-dasharray", .str "none"), ("stroke-linejoin", .str "bevel"), ("stroke-linecap", .str "butt")]))) := l16.trans fun a m q e => st1 a m (fun q2 => by subst q2; rw [hT] at e; cases e) e
  change exprK _ _ _ (((σ16.set T (.dict [("stroke-width", .str (Str.ofString (toString n))), ("stroke-dashoffset", .str "0"), ("stroke-miterlimit", .str "4"), ("font-size", .str "16")])).set U (.dict [("stroke-dasharray", .str "none"), ("stroke-linejoin", .str "bevel"), ("stroke-linecap", .str "butt")])).set T (.dict (mergeD [("stroke-width", .str (Str.ofString (toString n))), ("stroke-dashoffset", .str "0"), ("stroke-miterlimit", .str "4"), ("font-size", .str "16")] [("stroke-dasharray", .str "none"), ("stroke-linejoin", .str "bevel"), ("stroke-linecap", .str "butt")])))
  generalize (((σ16.set T (.dict [("stroke-width", .str (Str.ofString (toString n))), ("stroke-dashoffset", .str "0"), ("stroke-miterlimit", .str "4"), ("font-size", .str "16")])).set U (.dict [("stroke-dasharray", .str "none"), ("stroke-linejoin", .str "bevel"), ("stroke-linecap", .str "butt")])).set T (.dict (mergeD [("stroke-width", .str (Str.ofString (toString n))), ("stroke-dashoffset", .str "0"), ("stroke-miterlimit", .str "4"), ("font-size", .str "16")] [("stroke-dasharray", .str "none"), ("stroke-linejoin", .str "bevel"), ("stroke-linecap", .str "butt")]))) = V at hTV hMV hPV SV lV ⊢
  (repeat (first | wtm_at "vc0" | ((conv => whnf); wtm_at "vc0")))
  rename_i SG hSG
  (conv => whnf)
  refine k_Look fun xk mk hmk => ?_
  have l1' := (SLe.upd (x := .list [.tup [.str "move", .tup [sp i11 1, sp i12 1]], .tup [.str "line", .tup [sp x2 1, sp y2 1]]]) SLe.rfl hSG).trans (SLe.upd (x := lkNs T) SLe.rfl hmk)
  have hSGW : ((V.set SG (.list [.tup [.str "move", .tup [sp i11 1, sp i12 1]], .tup [.str "line", .tup [sp x2 1, sp y2 1]]])).set mk (lkNs T)) SG = some (.list [.tup [.str "move", .tup [sp i11 1, sp i12 1]], .tup [.str "line", .tup [sp x2 1, sp y2 1]]]) := (Sto.set_ne (neS hmk Sto.set_same)).trans Sto.set_same
  have hmkW : ((V.set SG (.list [.tup [.str "move", .tup [sp i11 1, sp i12 1]], .tup [.str "line", .tup [sp x2 1, sp y2 1]]])).set mk (lkNs T)) mk = some (lkNs T) := Sto.set_same
  have lW := lV.trans (.of l1')
  have SW := SV.le l1'
  generalize ((V.set SG (.list [.tup [.str "move", .tup [sp i11 1, sp i12 1]], .tup [.str "line", .tup [sp x2 1, sp y2 1]]])).set mk (lkNs T)) = W at l1' hSGW hmkW lW SW ⊢
  (repeat (first | wtm_at "vc0" | ((conv => whnf); wtm_at "vc0")))
  (conv => whnf)
  refine c_contours hSGW (l1' _ _ hMV) m1 m2 m3 m4 m5 m6 hz hmkW (l1' _ _ hTV) (lineLook (Bd.lit rfl) (menu_of (Int.le_trans (by decide) en.1) (Int.le_trans en.2 (by decide))).1) ⟨en.1, Int.le_trans en.2 (by decide)⟩ ⟨eg.1, Int.le_trans eg.2 (by decide)⟩ c1 c2 c3 c4 ex.1 (fun e0 E eE => ?_) (fun r' l u v E σE ne hr' el hu hv eE lE hE => ?_)
  · (repeat (first | wtm_at "vc0" | ((conv => whnf); wtm_at "vc0")))
    (conv => whnf)
    refine brn_eq (decide_eq_true (by rw [e0]; rfl)) (brn_t ?_)
    (repeat (first | wtm_at "vc0" | ((conv => whnf); wtm_at "vc0")))
    rename_i X hX
    have lX := (SLe.upd (x := .list []) SLe.rfl eE).trans (SLe.upd (x := .list []) SLe.rfl hX)
    exact h _ (SW.le lX) (lW.trans (.of lX))
  · obtain rfl := StrOk.one hr' hr
    subst el
    obtain ⟨lp, l24⟩ := lp_of eg r1 r6
    have bg : Bd 10 g := bd_r eg
    have bn : Bd 10 n := bd_r en
    have bl : Bd 10 (g * r') := bd_r ⟨lp, l24⟩
    (repeat (first | wtm_at "vc0" | ((conv => whnf); wtm_at "vc0")))
    (conv => whnf)
    refine brn_eq (decide_eq_false (nz_of ne)) (brn_f ?_)
    (repeat (first | wtm_at "vc0" | ((conv => whnf); wtm_at "vc0")))
    (conv => whnf)
    have hh := nl_of en lp l24
    have dx : i11 * (g * r') < x2 * (g * r') := Int.mul_lt_mul_of_pos_right ex.1 lp
    have hS0 : 0 < (x2 * (g * r') - i11 * (g * r')) * (x2 * (g * r') - i11 * (g * r')) + (y2 * (g * r') - i12 * (g * r')) * (y2 * (g * r') - i12 * (g * r')) := s_pos (Int.sub_pos_of_lt dx)
    have a1 : Bd 20 (i11 * (g * r')) := c1.mul bl
    have a2 : Bd 20 (i12 * (g * r')) := c2.mul bl
    have a3 : Bd 20 (x2 * (g * r')) := c3.mul bl
    have a4 : Bd 20 (y2 * (g * r')) := c4.mul bl
    have bh : Bd 10 ((n * (g * r')).fdiv 2) := bd_r hh
    have bu : Bd 10 u := nrs_b bh hh.1 (nrs_small hS0 (sq_r _ _) hh.1 hu)
    have bv : Bd 10 v := nrs_b bh hh.1 (nrs_small hS0 (sq_l _ _) hh.1 hv)
    have qs := quad_sens dx hh.1 hu hv
    have bl2 := bl.le (show 10 ≤ 20 by decide)
    have bg2 := bg.le (show 10 ≤ 20 by decide)
    simp only [← Int.sub_eq_add_neg] at hE
    have hPE := lE _ _ (l1' _ _ hPV)
    refine c_lawNormal hh.1 hh.2 a1 a2 a3 a4 (Int.sub_pos_of_lt dx) hS0 hu hv fun N σN hN lN eN => ?_
    have hEN := lN _ _ hE
    have hPN := lN _ _ hPE
    have lz := lE.trans lN
    generalize i11 * (g * r') = X1 at *
    generalize i12 * (g * r') = Y1 at *
    generalize x2 * (g * r') = X2 at *
    generalize y2 * (g * r') = Y2 at *
    (repeat (first | wtm_at "vc0" | ((conv => whnf); wtm_at "vc0")))
    rename_i A hA
    (conv => whnf)
    have xu1 : Bd 40 (X1 + u) := (a1.add (bu.le (by decide))).le (by decide)
    have yv1 : Bd 40 (Y1 + v) := (a2.add (bv.le (by decide))).le (by decide)
    have xu2 : Bd 40 (X2 + u) := (a3.add (bu.le (by decide))).le (by decide)
    have yv2 : Bd 40 (Y2 + v) := (a4.add (bv.le (by decide))).le (by decide)
    have xm1 : Bd 40 (X1 - u) := (a1.sub (bu.le (by decide))).le (by decide)
    have ym1 : Bd 40 (Y1 - v) := (a2.sub (bv.le (by decide))).le (by decide)
    have xm2 : Bd 40 (X2 - u) := (a3.sub (bu.le (by decide))).le (by decide)
    have ym2 : Bd 40 (Y2 - v) := (a4.sub (bv.le (by decide))).le (by decide)
    refine c_lawSensed Sto.set_same xu1 yv1 xu2 yv2 xm2 ym2 xm1 ym1 qs.1 qs.2.1 qs.2.2.1 qs.2.2.2.1 qs.2.2.2.2 fun σA kA => ?_
    have lA := (SLe.upd (x := .list [sp (X1 + u) (Y1 + v), sp (X2 + u) (Y2 + v), sp (X2 - u) (Y2 - v), sp (X1 - u) (Y1 - v)]) SLe.rfl hA).trans kA
    have hPB := lA _ _ hPN
    (repeat (first | wtm_at "vc0" | ((conv => whnf); wtm_at "vc0")))
    (conv => whnf)
    refine c_lawLed hPB m1 m2 m3 m4 m5 m6 xu1 yv1 bl2 bg2 lp fun σB1 kB1 => ?_
    have lB1 := kB1
    (repeat (first | wtm_at "vc0" | ((conv => whnf); wtm_at "vc0")))
    (conv => whnf)
    refine c_lawLed (lB1 _ _ hPB) m1 m2 m3 m4 m5 m6 xu2 yv2 bl2 bg2 lp fun σB2 kB2 => ?_
    have lB2 := lB1.trans kB2
    (repeat (first | wtm_at "vc0" | ((conv => whnf); wtm_at "vc0")))
    (conv => whnf)
    refine c_lawLed (lB2 _ _ hPB) m1 m2 m3 m4 m5 m6 xm2 ym2 bl2 bg2 lp fun σB3 kB3 => ?_
    have lB3 := lB2.trans kB3
    (repeat (first | wtm_at "vc0" | ((conv => whnf); wtm_at "vc0")))
    (conv => whnf)
    refine c_lawLed (lB3 _ _ hPB) m1 m2 m3 m4 m5 m6 xm1 ym1 bl2 bg2 lp fun σB4 kB4 => ?_
    have lB4 := lB3.trans kB4
    (repeat (first | wtm_at "vc0" | ((conv => whnf); wtm_at "vc0")))
    (conv => whnf)
    rename_i A1 hA1 R hR
    have lF := (lA.trans lB4).trans ((SLe.upd (x := .list [sp (LedI z1 z3 z5 (X1 + u) (Y1 + v) (g * r') g) (LedI z2 z4 z6 (X1 + u) (Y1 + v) (g * r') g), sp (LedI z1 z3 z5 (X2 + u) (Y2 + v) (g * r') g) (LedI z2 z4 z6 (X2 + u) (Y2 + v) (g * r') g), sp (LedI z1 z3 z5 (X2 - u) (Y2 - v) (g * r') g) (LedI z2 z4 z6 (X2 - u) (Y2 - v) (g * r') g), sp (LedI z1 z3 z5 (X1 - u) (Y1 - v) (g * r') g) (LedI z2 z4 z6 (X1 - u) (Y1 - v) (g * r') g)]) SLe.rfl hA1).trans (SLe.upd (x := .list [.tup [.tup [sp (LedI z1 z3 z5 (X1 + u) (Y1 + v) (g * r') g) (LedI z2 z4 z6 (X1 + u) (Y1 + v) (g * r') g), sp (LedI z1 z3 z5 (X2 + u) (Y2 + v) (g * r') g) (LedI z2 z4 z6 (X2 + u) (Y2 + v) (g * r') g), sp (LedI z1 z3 z5 (X2 - u) (Y2 - v) (g * r') g) (LedI z2 z4 z6 (X2 - u) (Y2 - v) (g * r') g), sp (LedI z1 z3 z5 (X1 - u) (Y1 - v) (g * r') g) (LedI z2 z4 z6 (X1 - u) (Y1 - v) (g * r') g)], .val (.bool true)]]) SLe.rfl hR))
    refine eqvD_g ⟨_, _, ⟨.list (lF _ _ hEN) (pd_told ..), .list Sto.set_same (pd_told ..), rfl, rfl⟩, ?_⟩
    rw [eq_self' rfl]
    have lQ := lz.trans lF
    exact h _ (SW.le lQ) (lW.trans (.of lQ))
end
end
section
set_option backward.match.sparseCases false
section
variable {c : Cx} {w : World} {env : Env} {vars : Vars} {σ : Sto} {D : Nat} {Q : Dat → Sto → Prop}
theorem base_keep {h h' : Heap} {A : Addr} {vs : Array Value} (hA : h.IsList A vs) (k : ∀ b o, h.get? b = some o → h'.get? b = some o) : h'.IsList A vs :=
  let ⟨o, ho, r⟩ := hA
  ⟨o, k _ _ ho, r⟩
theorem len_base {A : Addr} {vs : List Value} (hA : c.h0.IsList A vs.toArray) (hz : vs.length ≤ 1000) (h : Q (.int (vs.length : Int)) σ) : OpL c w env vars σ (fun xs => call (Bi.len).val xs) [.val (.ref A)] Q := by
  intro s m led us I R
  obtain ⟨v1, _, rfl, r1, r⟩ := R.inv
  obtain rfl := r.inv0
  cases r1
  refine call_len_list (base_keep hA I.F.keep) (by rw [List.size_toArray]; omega) ?_
  rw [List.size_toArray]
  exact PostG.same I (.int _ _) h
theorem ev_len {A : Addr} {vs : List Value} {sc : Sc} {p1 p2 p3 : Pos} (K : c.Ok w (D + 1)) (O : OkSc c env sc) (hs : look sc.l "len" = some .globalImplicit) (hv : look vars "script" = some (.val (.ref A))) (hA : c.h0.IsList A vs.toArray) (hz : vs.length ≤ 1000) (h : Q (.int (vs.length : Int)) σ) :
    Ev c w env vars σ (eval (.Call (.Name "len" p1) [.Name "script" p2] [] p3) env) Q := by
  refine ev_call (f := .none) K rfl ⟨_, _, rfl⟩ (GlobIs.ev K O rfl hs ((tabs_ok w).b (x := "len") (b := .len) rfl) ⟨_, rfl, Bi.keeps _, ?_⟩)
  exact evs_cons rfl (ev_var O.s.base rfl hv (evs_nil (len_base hA hz h)))
theorem ev_at {A : Addr} {vs : List Value} {k i : Int} {t0 : Tok} {sc : Sc} {p1 p2 p3 : Pos} (O : OkSc c env sc) (h1 : look vars "script" = some (.val (.ref A))) (h2 : look vars "k" = some (.int k)) (hA : c.h0.IsList A vs.toArray) (k0 : 0 ≤ k) (k1 : k < 1000) (hv : vs[k.toNat]? = some (.int i t0)) (h : Q (.int i) σ) :
    Ev c w env vars σ (eval (.Subscript (.Name "script" p1) (.Name "k" p2) p3) env) Q := by
  refine ev_sub (ev_var O.s.base rfl h1 (ev_var O.s.base rfl h2 ?_))
  intro s m led u v I Ru Rv
  cases Ru
  cases Rv
  have hl := base_keep hA I.F.keep
  exact tail_any hl.typeIs slot_list_getitem.lookup (getItem_listL hl k0 (by omega) hv (PostG.here I (.int i t0) h)) (sub_noSlice rfl)
/-- a script -/
structure Script (c : Cx) (A : Addr) (vs : List Value) (ns : List Int) : Prop where
  l : c.h0.IsList A vs.toArray
  i : IntsAre vs ns
  n : vs.length ≤ 1000
theorem IntsAre.at {vs : List Value} {ns : List Int} (h : IntsAre vs ns) {n : Nat} (q : n < vs.length) : ∃ i t, vs[n]? = some (.int i t) := by
  induction h generalizing n with
  | nil => exact absurd q (Nat.not_lt_zero _)
  | cons i t r ih =>
    cases n with
    | zero => exact ⟨_, _, rfl⟩
    | succ n => exact ih (Nat.lt_of_succ_lt_succ q)
theorem c_pool (K : c.Ok w (D + 5)) {A : Addr} {vs : List Value} {ns : List Int} (H : Script c A vs ns) {k : Int} (k0 : 0 ≤ k) (k1 : k ≤ 1) (h : ∀ S σ', σ S = none → Src σ' S → SLe σ σ' → Q (.val (.ref S)) σ') : OpL c w env vars σ (fun vs => call (.ref 1144) vs) [.val (.ref A), .int k] Q := by
  refine' enterV0 (D := D + 4) K (vars0 := [("script", .val (.ref A)), ("k", .int k)]) ?ho ?hc ?hb ?h1 ?h2 ?h3 ?h4 fun c' env' kp K' O hN => ?_
  case ho => (show List.lookup _ (Mine.frame.heap_1 (World.params _)) = _); k_is
  case hc => (show codeIn (Mine.frame.heap_1 (World.params _)) _ _ = true); k_is
  case hb => exact bind2 fun _ _ => by kernel_rfl!
  case h1 => rfl
  case h2 => rfl
  case h3 => rfl
  case h4 => rfl
  have hA := base_keep H.l kp
  have OS : OkSc c' env' ⟨true, _⟩ := OkSc.f O hN
  refine st_cons (st_assignT rfl rfl rfl (EvG.mono (Q := fun d σ' => σ' = σ ∧ ∃ i : Int, d = .int i) (ev_ifexp (ev_tcmp rfl (ev_var OS.s.base rfl rfl (ev_len K' OS rfl rfl hA H.n (cmp_ok K' (o := .Lt) (op_truthy ?_)))))) fun d σ' q => ?_))
  · show if decide (k < (vs.length : Int)) = true then _ else _
    by_cases q : k < (vs.length : Int)
    · rw [if_pos (decide_eq_true q)]
      obtain ⟨i, t, e⟩ := IntsAre.at H.i (n := k.toNat) (by omega)
      exact ev_at OS rfl rfl hA k0 (by omega) e ⟨rfl, i, rfl⟩
    · rw [if_neg (by rw [decide_eq_false q]; exact Bool.false_ne_true)]
      refine (sound_W (tabs_ok w) 60).e K' OS ?_
      (conv => whnf)
      exact ⟨rfl, 0, rfl⟩
  · obtain ⟨rfl, cell, rfl⟩ := q
    refine wpA_ok (tabs_ok w) (sound_W (tabs_ok w) 60) K' OS ?_
    (conv => whnf)
    refine wpB_ok (sound_W (tabs_ok w) 60) K' O hN ?_
    (conv => whnf)
    have hb : 0 ≤ (if -1 - cell > cell then -1 - cell else cell) := by split <;> omega
    generalize (if -1 - cell > cell then -1 - cell else cell) = big at hb ⊢
    refine And.intro (by decide) ?_
    obtain ⟨f1, f2⟩ := fmod_in (a := big) (t := 2147483629) (by decide)
    generalize big.fmod 2147483629 = y at f1 f2 ⊢
    have bk : Bd 10 k := bd_in (by omega) (by omega)
    have b1 : Bd 24 (7919 * k) := Bd.mul (j := 14) (k := 10) (by unfold Bd; decide) bk
    have kk : 7919 * k * k = 0 ∨ 7919 * k * k = 7919 := by
      rcases (show k = 0 ∨ k = 1 by omega) with rfl | rfl
      · exact .inl rfl
      · exact .inr rfl
    have bs : Bd 40 (y + 7919 * k * k + 31 * k + 17) := (show ∀ z : Int, z = 0 ∨ z = 7919 → Bd 40 (y + z + 31 * k + 17) from fun z hz => by unfold Bd; omega) _ kk
    (conv => whnf)
    refine And.intro (Bd.mulOk (j := 14) (k := 10) (by unfold Bd; decide) bk (by omega)) ?_
    (conv => whnf)
    refine And.intro (Bd.mulOk b1 bk (by omega)) ?_
    (conv => whnf)
    refine And.intro (Bd.mulOk (j := 5) (k := 10) (by unfold Bd; decide) bk (by omega)) ?_
    (conv => whnf)
    refine And.intro (Bd.mulOk (j := 40) (k := 20) bs (by unfold Bd; decide) (by omega)) ?_
    (conv => whnf)
    refine And.intro (by decide) ?_
    obtain ⟨e1, e2⟩ := fmod_in (a := (y + 7919 * k * k + 31 * k + 17) * 48271) (t := 2147483647) (by decide)
    generalize ((y + 7919 * k * k + 31 * k + 17) * 48271).fmod 2147483647 = z at e1 e2 ⊢
    (conv => whnf)
    refine And.intro ⟨by decide, by decide⟩ ?_
    (conv => whnf)
    generalize decide (10 ^ Int.toNat 18 ≤ big) = b
    have ho : IntMulOk big (if b = true then 1 else 0) ∧ 0 ≤ big * (if b = true then 1 else 0) := by
      cases b with
      | true => exact ⟨IntMulOk.of_right (by decide), by rw [if_pos rfl, Int.mul_one]; exact hb⟩
      | false => exact ⟨IntMulOk.of_right (by decide), by rw [if_neg Bool.false_ne_true, Int.mul_zero]; exact Int.le_refl _⟩
    refine And.intro ho.1 ?_
    (conv => whnf)
    intro S hS
    (conv => whnf)
    exact h S _ hS ⟨_, _, ho.2, e1, e2, Sto.set_same⟩ (SLe.upd SLe.rfl hS)
end
end
section
set_option backward.match.sparseCases false
/-- what the law's code does -/
noncomputable def LawGoal (w : World) (D : Nat) (body : List Stmt) (scope : Scope) : Prop := ∀ (c : Cx) (env : Env) (σ : Sto) (A : Addr) (vs : List Value) (ns : List Int), c.Ok w (D + 40) → FunOk c env scope.names → env.scope.names = scope.names → Script c A vs ns →
  StG c w env [("script", .val (.ref A))] σ (execs body env) (EndF fun d _ => d = .val (.bool true))
section
variable {w : World} {D : Nat} {f : Addr} {name qual : Str} {params : Arguments} {body : List Stmt} {scope : Scope} {dV kV doc pm cdv ct oc : Value} {an od : Option Addr} {osl : Array (Option Value)}
theorem ev_bi {c : Cx} {env : Env} {vars : Vars} {σ : Sto} {D : Nat} {Q : Dat → Sto → Prop} {sc : Sc} (K : c.Ok w (D + 1)) (O : OkSc c env sc) {x : Str} {b : Bi} {args : List Expr} {p pos : Pos} (hb : look tabs.b x = some b) (hx : okName x = true) (hs : look sc.l x = some .globalImplicit) (hst : noStars args = true)
    (h : EvL c w env vars σ (spliced (backTo pos (starEach args env))) fun ds σ1 => callBi b ds σ1 Q) : Ev c w env vars σ (eval (.Call (.Name x p) args [] pos) env) Q :=
  ev_call (f := .none) K hst ⟨_, _, rfl⟩ (GlobIs.ev K O hx hs ((tabs_ok w).b hb) ⟨_, rfl, Bi.keeps _, EvG.mono h fun ds σ1 q => op_bi K q⟩)
theorem ev_int1 {c : Cx} {env : Env} {vars : Vars} {σ : Sto} {D : Nat} {Q : Dat → Sto → Prop} {sc : Sc} (K : c.Ok w (D + 1)) (O : OkSc c env sc) {i : Int} {k : Nat} {p : Pos} (h : Q (.int i) σ) : Ev c w env vars σ (eval (.Constant (.int i) k p) env) Q := (sound_W (D := D) (tabs_ok w) 2).e K O h
theorem for_all {c : Cx} {env : Env} {target : Expr} {body : List Stmt} {Kf : Fl → Vars → Sto → Prop} (v0 : Vars) (P : Dat → Prop) {ds : List Dat} (hP : ∀ d ∈ ds, P d) (hnil : ∀ σ, Kf .next v0 σ)
    (hturn : ∀ d σ (ih : Fl → Vars → Sto → Prop), P d → (∀ v2 σ2, Fewer v0 v2 → ih .next v2 σ2) → AsG c w env v0 σ (assign target env) d fun v1 σ1 => StG c w env v1 σ1 (execs body env) ih) : ∀ v σ, Fewer v0 v → ForR c w env target body Kf ds v σ := by
  induction ds with
  | nil => exact fun v σ F => ⟨v0, F, hnil σ⟩
  | cons d ds ih => exact fun v σ F => ⟨v0, F, hturn d σ _ (hP d List.mem_cons_self) fun v2 σ2 F2 => ih (fun e he => hP e (List.mem_cons_of_mem _ he)) v2 σ2 F2⟩
theorem lawLook : LookW (mergeD [("stroke-width", .str "2"), ("stroke-dashoffset", .str "-3"), ("stroke-miterlimit", .str "4"), ("font-size", .str "16")] [("stroke-dasharray", .str "1"), ("stroke-linejoin", .str "miter"), ("stroke-linecap", .str "butt")]) 1 200 (-300) 400 [("1", 100)] "2" "-3" "4" "1" "miter" "butt" :=
  have a : menuB (Str.ofString "2") 200 = true := by decide +kernel
  have b : menuB (Str.ofString "-3") (-300) = true := by decide +kernel
  have f : menuB (Str.ofString "4") 400 = true := by decide +kernel
  have g : menuB (Str.ofString "1") 100 = true := by decide +kernel
  have M : MenuP 1 [(("1" : Str), (100 : Int))] := fun p hp => by
    obtain rfl := List.mem_singleton.mp hp
    exact ⟨.of g, Bd.lit rfl⟩
  have d := (dash_of (sp := ",") (.inl rfl) M (by decide) (fun e => by cases e)).1
  ⟨rfl, rfl, rfl, rfl, rfl, rfl, rfl, (LenM.of a).t, clnB_sl (LenM.of (W := 1) a).c, (LenM.of b).t, clnB_sl (LenM.of (W := 1) b).c, menu_num f, .inr d, Nat.le_of_ble_eq_true rfl⟩
theorem few_script {a b r : Dat} : Fewer [("script", r)] [("source", a), ("k", b), ("script", r)] := fun x d e =>
  have s : SubV [("script", r)] [("source", a), ("k", b), ("script", r)] := ⟨rfl, trivial⟩
  s.at e
theorem law_pre (ho : (KK w).lookup f = some ⟨oc, od, .func (fnOf name qual params body scope dV kV doc pm an cdv ct), osl⟩) (h : LawGoal w D body scope)
    {name' qual' : Str} {params' : Arguments} {body' : List Stmt} {scope' : Scope} {dV' kV' doc' pm' cdv' ct' oc' : Value} {an' od' : Option Addr} {osl' : Array (Option Value)}
    (ho' : (KK w).lookup f = some ⟨oc', od', .func (fnOf name' qual' params' body' scope' dV' kV' doc' pm' an' cdv' ct'), osl'⟩) : LawGoal w D body' scope' := by
  rw [ho] at ho'
  cases ho'
  exact h
theorem law_all (ho' : (KK w).lookup 1218 = some ⟨oc, od, .func (fnOf name qual params body scope dV kV doc pm an cdv ct), osl⟩) : LawGoal w D body scope := by
  refine' law_pre ?ho ?h ho'
  case ho => (show List.lookup _ (Mine.frame.heap_1 (World.params _)) = _); k_is
  case h =>
    intro c env σ A vs ns K O hN H
    have OS : OkSc c env ⟨true, _⟩ := OkSc.f O hN
    have S0 := sound_W (w := w) (D := D + 39) (tabs_ok w) 60
    refine st_cons (st_for K O.he rfl ?_)
    refine ev_bi K OS (b := .range) rfl rfl rfl rfl (evs_cons rfl ?_)
    refine ev_bi K OS (b := .max) rfl rfl rfl rfl (evs_cons rfl (ev_int1 K OS (evs_cons rfl ?_)))
    refine ev_bi K OS (b := .min) rfl rfl rfl rfl (evs_cons rfl (ev_len K OS rfl rfl H.l H.n (evs_cons rfl (ev_int1 K OS (evs_nil ?_)))))
    refine (evs_nil ?_ : EvL _ _ _ _ _ _ _)
    refine (evs_nil ?_ : EvL _ _ _ _ _ _ _)
    have hn : ∀ x : Int, 0 ≤ x → (if (if 2 < x then 2 else x) > 1 then if 2 < x then 2 else x else 1) = 1 ∨ (if (if 2 < x then 2 else x) > 1 then if 2 < x then 2 else x else 1) = 2 := fun x hx => by
      split <;> split <;> omega
    have hn := hn (vs.length : Int) (Int.natCast_nonneg _)
    generalize (if (if 2 < (vs.length : Int) then 2 else (vs.length : Int)) > 1 then if 2 < (vs.length : Int) then 2 else (vs.length : Int) else 1) = n at hn ⊢
    (conv => whnf)
    refine And.intro ⟨by decide, by decide, by omega, by omega⟩ ?_
    refine for_all [("script", .val (.ref A))] (fun d => ∃ k, d = .int k ∧ 0 ≤ k ∧ k ≤ 1) ?hP ?hnil ?hturn _ _ (fun _ _ e => e)
    case hP =>
      rcases hn with rfl | rfl
      · intro d hd
        obtain rfl := List.mem_singleton.mp hd
        exact ⟨0, rfl, by decide, by decide⟩
      · intro d hd
        rcases List.mem_cons.mp hd with e | hd
        · exact ⟨0, e, by decide, by decide⟩
        · obtain rfl := List.mem_singleton.mp hd
          exact ⟨1, rfl, by decide, by decide⟩
    case hturn =>
      rintro d σ ih ⟨k, rfl, k0, k1⟩ hi
      refine wpA_ok (tabs_ok w) S0 K OS ?_
      (conv => whnf)
      refine st_cons (st_assignT rfl rfl rfl ?_)
      refine ev_call (f := .none) K rfl ⟨_, _, rfl⟩ (GlobIs.ev K OS rfl rfl ((tabs_ok w).f (x := "_law_pool") (a := 1144) rfl).1 ⟨_, rfl, ((tabs_ok w).f (x := "_law_pool") (a := 1144) rfl).2, evs_cons rfl (ev_var OS.s.base rfl rfl (evs_cons rfl (ev_var OS.s.base rfl rfl (evs_nil ?_))))⟩)
      refine c_pool (D := D + 35) K H k0 k1 fun S σ1 hS0 hS l1 => ?_
      refine wpA_ok (tabs_ok w) S0 K OS ?_
      (conv => whnf)
      refine wpB_ok S0 K O hN ?_
      (repeat (first | wtm_at "vc0" | ((conv => whnf); wtm_at "vc0")))
      (conv => whnf)
      refine c_styleRight hS fun σ2 hS2 l2 => ?_
      (repeat (first | wtm_at "vc0" | ((conv => whnf); wtm_at "vc0")))
      (conv => whnf)
      refine c_lawLine hS2 fun σ3 _ _ => ?_
      (repeat (first | wtm_at "vc0" | ((conv => whnf); wtm_at "vc0")))
      (conv => whnf)
      exact hi _ _ few_script
    case hnil =>
      intro σ
      refine wpB_ok S0 K O hN ?_
      (repeat (first | wtm_at "vc0" | ((conv => whnf); wtm_at "vc0")))
      rename_i T hT
      (conv => whnf)
      refine ⟨T, _, rfl, Sto.set_same, ?_⟩
      (conv => whnf)
      intro U hU
      refine ⟨U, _, _, rfl, (Sto.set_ne (neS hU Sto.set_same)).trans Sto.set_same, Sto.set_same, neS hU Sto.set_same, Nat.le_of_ble_eq_true rfl, ?_⟩
      have hTV := Sto.set_same (σ := (σ.set T (.dict [("stroke-width", .str "2"), ("stroke-dashoffset", .str "-3"), ("stroke-miterlimit", .str "4"), ("font-size", .str "16")])).set U (.dict [("stroke-dasharray", .str "1"), ("stroke-linejoin", .str "miter"), ("stroke-linecap", .str "butt")])) (a := T) (o := .dict (mergeD [("stroke-width", .str "2"), ("stroke-dashoffset", .str "-3"), ("stroke-miterlimit", .str "4"), ("font-size", .str "16")] [("stroke-dasharray", .str "1"), ("stroke-linejoin", .str "miter"), ("stroke-linecap", .str "butt")]))
      change exprK _ _ _ (((σ.set T (.dict [("stroke-width", .str "2"), ("stroke-dashoffset", .str "-3"), ("stroke-miterlimit", .str "4"), ("font-size", .str "16")])).set U (.dict [("stroke-dasharray", .str "1"), ("stroke-linejoin", .str "miter"), ("stroke-linecap", .str "butt")])).set T (.dict (mergeD [("stroke-width", .str "2"), ("stroke-dashoffset", .str "-3"), ("stroke-miterlimit", .str "4"), ("font-size", .str "16")] [("stroke-dasharray", .str "1"), ("stroke-linejoin", .str "miter"), ("stroke-linecap", .str "butt")])))
      generalize (((σ.set T (.dict [("stroke-width", .str "2"), ("stroke-dashoffset", .str "-3"), ("stroke-miterlimit", .str "4"), ("font-size", .str "16")])).set U (.dict [("stroke-dasharray", .str "1"), ("stroke-linejoin", .str "miter"), ("stroke-linecap", .str "butt")])).set T (.dict (mergeD [("stroke-width", .str "2"), ("stroke-dashoffset", .str "-3"), ("stroke-miterlimit", .str "4"), ("font-size", .str "16")] [("stroke-dasharray", .str "1"), ("stroke-linejoin", .str "miter"), ("stroke-linecap", .str "butt")]))) = V at hTV ⊢
      (repeat (first | wtm_at "vc0" | ((conv => whnf); wtm_at "vc0")))
      (conv => whnf)
      refine k_Look fun x m hm => ?_
      (repeat (first | wtm_at "vc0" | ((conv => whnf); wtm_at "vc0")))
      (conv => whnf)
      refine c_style (W := 1) (l := 2) Sto.set_same ((Sto.set_ne (neS hm hTV)).trans hTV) lawLook (Bd.lit rfl) (Bd.lit rfl) fun y e p q S2 he fq l2 hst => ?_
      (repeat (first | wtm_at "vc0" | ((conv => whnf); wtm_at "vc0")))
      exact rfl
end
end
section
set_option backward.match.sparseCases false
theorem post_true {x : WData} : (PySem.Challenge.rw_on0255_01.row.claim).post [x] (.bool true) [x] = true := by with_unfolding_all rfl
theorem good_true {cl : Str → Option Addr} {mean : ExcName → Option Value} {x : WData} {s₁ s' : Shared} (hk : ∀ b o, s₁.heap.get? b = some o → s'.heap.get? b = some o) (ho : s'.os = s₁.os) (hg : s'.gens = #[]) :
    GoodW PySem.Challenge.rw_on0255_01.row.claim cl mean [x] s₁ (Except.ok (Flow.ret (.bool true))) s' :=
  ⟨.inl ⟨_, .bool true, [], rfl, fun _ => rfl, .bool _, post_true, fun _ => ⟨.nil, fun _ q => (nomatch q)⟩⟩, hk, ho, hg⟩
theorem ints_len {vs : List Value} {ns : List Int} (h : IntsAre vs ns) : vs.length = ns.length := by
  induction h with
  | nil => rfl
  | cons i t r ih => exact congrArg (· + 1) ih
theorem head_join {w : World} {prog p : Program} {loose : List Str} {mean : ExcName → Option Value} {mg mb : Str → Option Value} {h0 h1 : Heap} {L fa A : Addr} {name : Str} {scope : Scope} {cd : Value} {vs : List Value} {ns : List Int} {body : List Stmt} {s : Shared} {R : Flow → Shared → Prop} {E : Value → Shared → Prop}
    (B : Below callerA h0 [] h0) (X : (KK w).In h0) (T : Top p loose mean mg mb h0) (F : Fr h0 L h1 (fun x => List.lookup x ([(("script" : Str), Value.ref A)] : List (Str × Value)).reverse)) (hA : h0.IsList A vs.toArray) (hI : IntsAre vs ns) (hn : ¬ ((63 : Nat) : Int) < (ns.length : Int))
    (hs : s.heap = h1) (hk : scope.kind = .function) (hc : (scope.names.all fun p => match p.2 with | .cell => false | _ => true) = true) (hl : look scope.names "script" = some .local) (G : LawGoal w 0 body scope)
    (h : ∀ s', s'.os = s.os → s'.gens = s.gens → (∀ b o, h0.get? b = some o → s'.heap.get? b = some o) → R (.ret (.bool true)) s') :
    wpAny (model prog w) (callerA.deeper (envOf name scope L fa cd)) (execs body (envOf name scope L fa cd)) R E s := by
  subst hs
  let env := envOf name scope L fa cd
  let c : Cx := { prog := prog, A := callerA.deeper env, e0 := env, h0 := h0, L := L, base := h0, outer := [], A0 := callerA, p := p, loose := loose, mean := mean, mg := mg, mb := mb }
  have K : c.Ok w (0 + 40) := ⟨B, X, T, rfl, rfl, rfl, rfl, hk, (by show 1 + claimMargin + 1 + (0 + 40) < recursionLimit; decide), (by show 4 + 3 + 100 * (0 + 40) < cLine; decide)⟩
  have ko : ∀ x, env.kindOf x = look scope.names x := fun x => by rw [look_eq]; rfl
  have nc : ∀ x, look scope.names x ≠ some .cell := fun x e => by
    have := List.all_eq_true.mp hc _ (look_mem e)
    cases this
  have O : FunOk c env scope.names := {
    hk := hk, hg := rfl, hb := rfl, gl := (fun x e => by rw [ko, e]), he := rfl, hfn := (fun e => by cases e), lo := (fun x e => by rw [ko, e]),
    ce := (fun x e => absurd e (nc x)),
    inj := (fun x y ca e1 e2 => by cases e1) }
  have I : Inv c w env s.heap (fun x => List.lookup x ([(("script" : Str), Value.ref A)] : List (Str × Value)).reverse) [] (fun _ => none) [("script", .val (.ref A))] := {
    F := F, N := News.nil, nd := .nil, rs := (fun a mo e => by cases e),
    rv := (fun x d e => by
      have e2 := List.mem_singleton.mp (look_mem e)
      cases e2
      exact ⟨.ref A, .loc rfl ((ko _).trans hl) (by rw [List.reverse_singleton, List.lookup_cons_self]), .val _⟩)
    cl := (fun x ca e => by cases e), lo := .inl rfl }
  have len : vs.length = ns.length := ints_len hI
  refine wpAny_mono (G c env (fun _ => none) A vs ns K O rfl ⟨hA, hI, by omega⟩ s _ [] I) ?_ ?_
  · intro f s' q
    obtain ⟨fl, vars', m', σ', led', h', tk', e, I2, X2, r, q⟩ := q
    subst e
    cases fl with
    | ret d =>
      obtain ⟨v, rfl, Rv⟩ := r
      obtain rfl := (show d = .val (.bool true) from q)
      cases Rv
      exact h _ rfl rfl I2.F.keep
    | next => cases (show Dat.val Value.none = .val (.bool true) from q)
    | _ => exact False.elim q
  · intro v s' q
    exact False.elim q
end
end Mine
noncomputable def Mine.all.tw44263415142174766 : Unit := ()
noncomputable def Mine.all.tw8689057759390064058 : Unit := ()
noncomputable def Mine.all.tw12071712058454129317 : Unit := ()
noncomputable def Mine.all.tw10376188240374116514 : Unit := ()
noncomputable def Mine.all.tw12317132656592258788 : Unit := ()
noncomputable def Mine.all.tw17711473739705145481 : Unit := ()
noncomputable def Mine.all.tw17558465517493045558 : Unit := ()
noncomputable def Mine.all.tw12749833136222056006 : Unit := ()
noncomputable def Mine.all.tw14701963045326077753 : Unit := ()
noncomputable def Mine.all.tw13887551421349579326 : Unit := ()
noncomputable def Mine.all.tw11324514038471653711 : Unit := ()
noncomputable def Mine.all.tw8051855291408445781 : Unit := ()
noncomputable def Mine.all.tw7723783022558009007 : Unit := ()
noncomputable def Mine.all.tw5314476594739705674 : Unit := ()
noncomputable def Mine.all.tw985358568233223399 : Unit := ()
noncomputable def Mine.all.tw12221947951091446842 : Unit := ()
noncomputable def Mine.all.tw7347299435816893626 : Unit := ()
noncomputable def Mine.all.tw5927061715728957476 : Unit := ()
noncomputable def Mine.all.tw15460995928004159328 : Unit := ()
noncomputable def Mine.all.tw4522366702415909387 : Unit := ()
noncomputable def Mine.all.tw17259241986408110582 : Unit := ()
noncomputable def Mine.all.tw6719982252746284739 : Unit := ()
noncomputable def Mine.all.tw12588980310967471357 : Unit := ()
noncomputable def Mine.all.tw8168207773787120530 : Unit := ()
noncomputable def Mine.all.tw3068416756104905590 : Unit := ()
noncomputable def Mine.all.tw17673552818380985392 : Unit := ()
noncomputable def Mine.all.tw3118590830584386713 : Unit := ()
noncomputable def Mine.all.tw4618620380050820059 : Unit := ()
noncomputable def Mine.all.tw7458478332549306277 : Unit := ()
noncomputable def Mine.all.tw755134328155928439 : Unit := ()
noncomputable def Mine.all.tw11492293592050298618 : Unit := ()
noncomputable def Mine.all.tw14929683446248860828 : Unit := ()
noncomputable def Mine.all.tw17176909633825939892 : Unit := ()
noncomputable def Mine.all.tw15656042900225242773 : Unit := ()
noncomputable def Mine.all.tw6895140502065430135 : Unit := ()
noncomputable def Mine.all.tw16447172759540358135 : Unit := ()
noncomputable def Mine.all.tw4258606087713283508 : Unit := ()
noncomputable def Mine.all.tw16576222957257545530 : Unit := ()
noncomputable def Mine.all.tw4693333692992608644 : Unit := ()
noncomputable def Mine.all.tw15414233836422861205 : Unit := ()
noncomputable def Mine.all.tw1252384811442314424 : Unit := ()
noncomputable def Mine.all.tw12028550053918628185 : Unit := ()
noncomputable def Mine.all.tw5221675337516389627 : Unit := ()
noncomputable def Mine.all.tw15923569513143324050 : Unit := ()
noncomputable def Mine.all.tw13196349276625024522 : Unit := ()
noncomputable def Mine.all.tw11059894655552103594 : Unit := ()
noncomputable def Mine.all.tw7525655301032184626 : Unit := ()
noncomputable def Mine.all.tw281770217567036725 : Unit := ()
noncomputable def Mine.all.tw5103548895888603802 : Unit := ()
noncomputable def Mine.all.tw17772726858579744284 : Unit := ()
noncomputable def Mine.all.tw14483376603434069256 : Unit := ()
noncomputable def Mine.all.tw6759274640766504497 : Unit := ()
noncomputable def Mine.all.tw7091565871241343341 : Unit := ()
noncomputable def Mine.all.tw4907521953547317329 : Unit := ()
noncomputable def Mine.all.tw4824961169156336389 : Unit := ()
noncomputable def Mine.all.tw13930999109560414629 : Unit := ()
noncomputable def Mine.all.tw5292727600074520659 : Unit := ()
noncomputable def Mine.all.tw10073190252686323273 : Unit := ()
noncomputable def Mine.all.tw8026366407565007962 : Unit := ()
noncomputable def Mine.all.tw11029868008866206867 : Unit := ()
noncomputable def Mine.all.tw3855190133869164905 : Unit := ()
noncomputable def Mine.all.tw928717787569047865 : Unit := ()
noncomputable def Mine.all.tw14200518018382609147 : Unit := ()
noncomputable def Mine.all.tw3450342649583938456 : Unit := ()
noncomputable def Mine.all.tw10915074446201010522 : Unit := ()
noncomputable def Mine.all.tw2906728797450688670 : Unit := ()
noncomputable def Mine.all.tw6643951234224847407 : Unit := ()
noncomputable def Mine.all.tw4797826422191193900 : Unit := ()
noncomputable def Mine.all.tw11727216211473136881 : Unit := ()
noncomputable def Mine.all.tw7000523462626781010 : Unit := ()
noncomputable def Mine.all.tw14793058985867185695 : Unit := ()
noncomputable def Mine.all.tw3204017013573700639 : Unit := ()
noncomputable def Mine.all.tw100579137028481972 : Unit := ()
noncomputable def Mine.all.tw4252973022230594116 : Unit := ()
noncomputable def Mine.all.tw11852345150927063594 : Unit := ()
noncomputable def Mine.all.tw8486076525276431931 : Unit := ()
noncomputable def Mine.all.tw7062720368445256129 : Unit := ()
noncomputable def Mine.all.tw4547723090059260100 : Unit := ()
noncomputable def Mine.all.tw2316775634158704177 : Unit := ()
noncomputable def Mine.all.tw15568806467266420770 : Unit := ()
noncomputable def Mine.all.tw2520454061352243783 : Unit := ()
noncomputable def Mine.all.tw17799788444099011656 : Unit := ()
noncomputable def Mine.all.tw282076826160197541 : Unit := ()
noncomputable def Mine.all.tw12847938454781286588 : Unit := ()
noncomputable def Mine.all.tw658038952242159251 : Unit := ()
noncomputable def Mine.all.tw15766516232730648815 : Unit := ()
noncomputable def Mine.all.tw6584317449860814669 : Unit := ()
noncomputable def Mine.all.tw13830746773910301732 : Unit := ()
noncomputable def Mine.all.tw15391004526167926365 : Unit := ()
noncomputable def Mine.all.tw17777634240378856414 : Unit := ()
noncomputable def Mine.all.tw7442053078452299063 : Unit := ()
noncomputable def Mine.all.tw3383228532688896787 : Unit := ()
noncomputable def Mine.all.tw2442836877315861853 : Unit := ()
noncomputable def Mine.all.tw14954329004993159738 : Unit := ()
noncomputable def Mine.all.tw6055196601331254383 : Unit := ()
noncomputable def Mine.all.tw13960862262899742394 : Unit := ()
noncomputable def Mine.all.tw17792922155505425965 : Unit := ()
noncomputable def Mine.all.tw12981892083367582941 : Unit := ()
noncomputable def Mine.all.tw16417971975926614949 : Unit := ()
noncomputable def Mine.all.tw7400686549319467544 : Unit := ()
noncomputable def Mine.all.tw3778542015000669638 : Unit := ()
noncomputable def Mine.all.tw6849123771955923804 : Unit := ()
noncomputable def Mine.all.tw16298671858544969935 : Unit := ()
noncomputable def Mine.all.tw8986052304615259452 : Unit := ()
noncomputable def Mine.all.tw4515135292898193881 : Unit := ()
noncomputable def Mine.all.tw12139988101201813748 : Unit := ()
noncomputable def Mine.all.tw14504465163362997928 : Unit := ()
noncomputable def Mine.all.tw5217560924200664910 : Unit := ()
noncomputable def Mine.all.tw1291087626157917732 : Unit := ()
noncomputable def Mine.all.tw5158079766431907438 : Unit := ()
noncomputable def Mine.all.tw12136012030893486346 : Unit := ()
noncomputable def Mine.all.tw9796569379432623599 : Unit := ()
noncomputable def Mine.all.tw8121427672614705931 : Unit := ()
noncomputable def Mine.all.tw885046472334632136 : Unit := ()
noncomputable def Mine.all.tw12451815053677690644 : Unit := ()
noncomputable def Mine.all.tw8543756510809834644 : Unit := ()
noncomputable def Mine.all.tw4350801690150286559 : Unit := ()
noncomputable def Mine.all.tw6230986086223006687 : Unit := ()
noncomputable def Mine.all.tw6079467913474894956 : Unit := ()
noncomputable def Mine.all.tw18037295023160315550 : Unit := ()
noncomputable def Mine.all.tw18003279642469066050 : Unit := ()
noncomputable def Mine.all.tw4382491568596388571 : Unit := ()
noncomputable def Mine.all.tw6169999212503205497 : Unit := ()
noncomputable def Mine.all.tw5440085390276978291 : Unit := ()
noncomputable def Mine.all.tw6240978681383088810 : Unit := ()
noncomputable def Mine.all.tw11719151900338479318 : Unit := ()
noncomputable def Mine.all.tw12985212532813657682 : Unit := ()
noncomputable def Mine.all.tw4049413732980777947 : Unit := ()
noncomputable def Mine.all.tw16789253961424178741 : Unit := ()
noncomputable def Mine.all.tw8608077670442852389 : Unit := ()
noncomputable def Mine.all.tw7778630667622746703 : Unit := ()
noncomputable def Mine.all.tw8993589655969448955 : Unit := ()
noncomputable def Mine.all.tw18159623550344917583 : Unit := ()
noncomputable def Mine.all.tw8572181188841215417 : Unit := ()
noncomputable def Mine.all.tw15359849362664289188 : Unit := ()
noncomputable def Mine.all.tw335442867052375821 : Unit := ()
noncomputable def Mine.all.tw1548488679004171357 : Unit := ()
noncomputable def Mine.all.tw3325599831351144110 : Unit := ()
noncomputable def Mine.all.tw16645633237659405902 : Unit := ()
noncomputable def Mine.all.tw4285537696453044991 : Unit := ()
noncomputable def Mine.all.tw15902913901339227234 : Unit := ()
noncomputable def Mine.all.tw7868191893551648507 : Unit := ()
noncomputable def Mine.all.tw3108443244893856389 : Unit := ()
noncomputable def Mine.all.tw7867681300357518899 : Unit := ()
noncomputable def Mine.all.tw11169345097121325287 : Unit := ()
noncomputable def Mine.all.tw15575253945988166476 : Unit := ()
noncomputable def Mine.all.tw12713213041129622782 : Unit := ()
noncomputable def Mine.all.tw12810256067151697097 : Unit := ()
noncomputable def Mine.all.tw18369841484834026144 : Unit := ()
noncomputable def Mine.all.tw1644255569911684797 : Unit := ()
noncomputable def Mine.all.tw8728979480298456956 : Unit := ()
noncomputable def Mine.all.tw14468142351790202716 : Unit := ()
noncomputable def Mine.all.tw16482638716224340223 : Unit := ()
noncomputable def Mine.all.tw4948872784897348979 : Unit := ()
noncomputable def Mine.all.tw1352723322627576488 : Unit := ()
noncomputable def Mine.all.tw9102814887402522414 : Unit := ()
noncomputable def Mine.all.tw8007103614756019116 : Unit := ()
noncomputable def Mine.all.tw3298683737301795645 : Unit := ()
noncomputable def Mine.all.tw14003663102062188800 : Unit := ()
noncomputable def Mine.all.tw8433301184055030320 : Unit := ()
noncomputable def Mine.all.tw348646849450171363 : Unit := ()
noncomputable def Mine.all.tw11612715853725182930 : Unit := ()
noncomputable def Mine.all.tw15875746330617476859 : Unit := ()
noncomputable def Mine.all.tw9327985806830046984 : Unit := ()
noncomputable def Mine.all.tw14940032972901115816 : Unit := ()
noncomputable def Mine.all.tw2479237469882504799 : Unit := ()
noncomputable def Mine.all.tw2557191316624668217 : Unit := ()
noncomputable def Mine.all.tw12249842068641981632 : Unit := ()
noncomputable def Mine.all.tw10224248578529253800 : Unit := ()
noncomputable def Mine.all.tw1088589479996732829 : Unit := ()
noncomputable def Mine.all.tw12454838139127397598 : Unit := ()
noncomputable def Mine.all.tw1752733083305661762 : Unit := ()
noncomputable def Mine.all.tw11931918283646908614 : Unit := ()
noncomputable def Mine.all.tw1074977417605700491 : Unit := ()
noncomputable def Mine.all.tw11230645906715702508 : Unit := ()
noncomputable def Mine.all.tw3764707466689467706 : Unit := ()
noncomputable def Mine.all.tw11736780227944870738 : Unit := ()
noncomputable def Mine.all.tw3426563556032164376 : Unit := ()
noncomputable def Mine.all.tw9617293099064000090 : Unit := ()
noncomputable def Mine.all.tw11013067947808108990 : Unit := ()
noncomputable def Mine.all.tw11322697920292055282 : Unit := ()
noncomputable def Mine.all.tw8413312007650308279 : Unit := ()
noncomputable def Mine.all.tw8640155761716072762 : Unit := ()
noncomputable def Mine.all.tw4416955175097061657 : Unit := ()
noncomputable def Mine.all.tw14130914514491923361 : Unit := ()
noncomputable def Mine.all.tw4338314545742005754 : Unit := ()
noncomputable def Mine.all.tw18115519886717534904 : Unit := ()
noncomputable def Mine.all.tw15905863888603160686 : Unit := ()
noncomputable def Mine.all.tw14911401402694521299 : Unit := ()
noncomputable def Mine.all.tw9807315754561966120 : Unit := ()
noncomputable def Mine.all.tw15494586727394399691 : Unit := ()
noncomputable def Mine.all.tw12994552909553032409 : Unit := ()
noncomputable def Mine.all.tw16857469709051444266 : Unit := ()
noncomputable def Mine.all.tw3334971056810567310 : Unit := ()
noncomputable def Mine.all.tw8661065196793792047 : Unit := ()
noncomputable def Mine.all.tw17930729421058410415 : Unit := ()
noncomputable def Mine.all.tw16740921855470316824 : Unit := ()
noncomputable def Mine.all.tw4463848349969469772 : Unit := ()
noncomputable def Mine.all.tw9960083256741680508 : Unit := ()
noncomputable def Mine.all.tw16088354708999966866 : Unit := ()
noncomputable def Mine.all.tw12622491811137199776 : Unit := ()
noncomputable def Mine.all.tw1550712947053634219 : Unit := ()
noncomputable def Mine.all.tw15778654729900951400 : Unit := ()
noncomputable def Mine.all.tw18058516629519361111 : Unit := ()
noncomputable def Mine.all.tw888978351763286717 : Unit := ()
noncomputable def Mine.all.tw4726450323565452186 : Unit := ()
noncomputable def Mine.all.tw13508003155388970551 : Unit := ()
noncomputable def Mine.all.tw1893714423232466129 : Unit := ()
noncomputable def Mine.all.tw10532639588233176698 : Unit := ()
noncomputable def Mine.all.tw2190069512306122332 : Unit := ()
noncomputable def Mine.all.tw14832271272948145296 : Unit := ()
noncomputable def Mine.all.tw9486138936568494536 : Unit := ()
noncomputable def Mine.all.tw15775133740396041162 : Unit := ()
noncomputable def Mine.all.tw3905375630023619888 : Unit := ()
noncomputable def Mine.all.tw5004987881651496831 : Unit := ()
noncomputable def Mine.all.tw16942522186650535968 : Unit := ()
noncomputable def Mine.all.tw14242173848286271349 : Unit := ()
noncomputable def Mine.all.tw7413789549073271274 : Unit := ()
noncomputable def Mine.all.tw11554346470539331173 : Unit := ()
noncomputable def Mine.all.tw2526888682696392367 : Unit := ()
noncomputable def Mine.all.tw7738991312742050928 : Unit := ()
noncomputable def Mine.all.tw6633839925594936489 : Unit := ()
noncomputable def Mine.all.tw9091936605540352920 : Unit := ()
noncomputable def Mine.all.tw10808106126208798102 : Unit := ()
noncomputable def Mine.all.tw1290094970999489009 : Unit := ()
noncomputable def Mine.all.tw9648519034531077515 : Unit := ()
noncomputable def Mine.all.tw1681544595491871160 : Unit := ()
noncomputable def Mine.all.tw15437854835666668586 : Unit := ()
noncomputable def Mine.all.tw409914518651768084 : Unit := ()
noncomputable def Mine.all.tw15618092478124507917 : Unit := ()
noncomputable def Mine.all.tw6421116273214462829 : Unit := ()
noncomputable def Mine.all.tw9273556802335580839 : Unit := ()
noncomputable def Mine.all.tw9600454056292803967 : Unit := ()
noncomputable def Mine.all.tw4244794441018138637 : Unit := ()
noncomputable def Mine.all.tw2859494293696649499 : Unit := ()
noncomputable def Mine.all.tw10809422741971537594 : Unit := ()
noncomputable def Mine.all.tw3318677167507295741 : Unit := ()
noncomputable def Mine.all.tw1611252808612934635 : Unit := ()
noncomputable def Mine.all.tw13505173894226300209 : Unit := ()
noncomputable def Mine.all.tw18441473437031201941 : Unit := ()
noncomputable def Mine.all.tw18048707754611488870 : Unit := ()
noncomputable def Mine.all.tw12248499234135794655 : Unit := ()
noncomputable def Mine.all.tw6742200501135914891 : Unit := ()
noncomputable def Mine.all.tw10110423819327322195 : Unit := ()
noncomputable def Mine.all.tw12040197634456252077 : Unit := ()
noncomputable def Mine.all.tw10156424416328317940 : Unit := ()
noncomputable def Mine.all.tw13455461431897201640 : Unit := ()
noncomputable def Mine.all.tw16223638597430114740 : Unit := ()
noncomputable def Mine.all.tw10168888151487559394 : Unit := ()
noncomputable def Mine.all.tw10042690540180379618 : Unit := ()
noncomputable def Mine.all.tw10049700130234932854 : Unit := ()
noncomputable def Mine.all.tw10059427243083084051 : Unit := ()
noncomputable def Mine.all.tw10081088541268293599 : Unit := ()
noncomputable def Mine.all.tw10130366669087276332 : Unit := ()
noncomputable def Mine.all.tw10157199282875686013 : Unit := ()
noncomputable def Mine.all.tw10175558820241607032 : Unit := ()
noncomputable def Mine.all.tw10197837139470215952 : Unit := ()
noncomputable def Mine.all.tw10205450789954323259 : Unit := ()
noncomputable def Mine.all.tw10220718595764522284 : Unit := ()
noncomputable def Mine.all.tw10227051316576381974 : Unit := ()
noncomputable def Mine.all.tw10252965763247687682 : Unit := ()
noncomputable def Mine.all.tw10268101183197098196 : Unit := ()
noncomputable def Mine.all.tw10270419983477892464 : Unit := ()
noncomputable def Mine.all.tw10277023259857791717 : Unit := ()
noncomputable def Mine.all.tw10277526245819850656 : Unit := ()
noncomputable def Mine.all.tw10316705163991428254 : Unit := ()
noncomputable def Mine.all.tw10323370424266482742 : Unit := ()
noncomputable def Mine.all.tw10331167273965929257 : Unit := ()
noncomputable def Mine.all.tw10343516019890357620 : Unit := ()
noncomputable def Mine.all.tw10379555496612227986 : Unit := ()
noncomputable def Mine.all.tw10389294372677164839 : Unit := ()
noncomputable def Mine.all.tw10393596885623623503 : Unit := ()
noncomputable def Mine.all.tw10407399669362838719 : Unit := ()
noncomputable def Mine.all.tw10427701671452009419 : Unit := ()
noncomputable def Mine.all.tw10600613889749566790 : Unit := ()
noncomputable def Mine.all.tw10634939071730365363 : Unit := ()
noncomputable def Mine.all.tw10636018739910865072 : Unit := ()
noncomputable def Mine.all.tw10640348836240559591 : Unit := ()
noncomputable def Mine.all.tw10649901628825759099 : Unit := ()
noncomputable def Mine.all.tw10658958392246782621 : Unit := ()
noncomputable def Mine.all.tw10684865472388628163 : Unit := ()
noncomputable def Mine.all.tw10696458614491829572 : Unit := ()
noncomputable def Mine.all.tw10705108097460422218 : Unit := ()
noncomputable def Mine.all.tw10721592527251718529 : Unit := ()
noncomputable def Mine.all.tw10739910033669202754 : Unit := ()
noncomputable def Mine.all.tw1075291646940621582 : Unit := ()
noncomputable def Mine.all.tw10773934983489079739 : Unit := ()
noncomputable def Mine.all.tw10787622589932112302 : Unit := ()
noncomputable def Mine.all.tw1079708855280229330 : Unit := ()
noncomputable def Mine.all.tw10807058235482574751 : Unit := ()
noncomputable def Mine.all.tw1081408078033650336 : Unit := ()
noncomputable def Mine.all.tw10825269862236069917 : Unit := ()
noncomputable def Mine.all.tw10856765595117590405 : Unit := ()
noncomputable def Mine.all.tw10895411794446438415 : Unit := ()
noncomputable def Mine.all.tw10912467617979834864 : Unit := ()
noncomputable def Mine.all.tw10923070005692675132 : Unit := ()
noncomputable def Mine.all.tw10942295900298899174 : Unit := ()
noncomputable def Mine.all.tw1095929389519559783 : Unit := ()
noncomputable def Mine.all.tw10971250334911043752 : Unit := ()
noncomputable def Mine.all.tw11033290881951375731 : Unit := ()
noncomputable def Mine.all.tw11038128598146805730 : Unit := ()
noncomputable def Mine.all.tw11045270430615452010 : Unit := ()
noncomputable def Mine.all.tw11051373392699811023 : Unit := ()
noncomputable def Mine.all.tw11051709101105081487 : Unit := ()
noncomputable def Mine.all.tw11093295523969242068 : Unit := ()
noncomputable def Mine.all.tw11113120797386210373 : Unit := ()
noncomputable def Mine.all.tw11116879363250112325 : Unit := ()
noncomputable def Mine.all.tw11120492362615346026 : Unit := ()
noncomputable def Mine.all.tw11139934685464864865 : Unit := ()
noncomputable def Mine.all.tw11158953913317867288 : Unit := ()
noncomputable def Mine.all.tw11169558830825096451 : Unit := ()
noncomputable def Mine.all.tw11177561488728990998 : Unit := ()
noncomputable def Mine.all.tw11221641727941109892 : Unit := ()
noncomputable def Mine.all.tw11223482586740685078 : Unit := ()
noncomputable def Mine.all.tw11242623580682996947 : Unit := ()
noncomputable def Mine.all.tw11273133048781285286 : Unit := ()
noncomputable def Mine.all.tw11276062564640038955 : Unit := ()
noncomputable def Mine.all.tw11277845596349742556 : Unit := ()
noncomputable def Mine.all.tw11298796024306172991 : Unit := ()
noncomputable def Mine.all.tw11330118131623060689 : Unit := ()
noncomputable def Mine.all.tw11338558125871782157 : Unit := ()
noncomputable def Mine.all.tw11375281295658956675 : Unit := ()
noncomputable def Mine.all.tw11378520881680533043 : Unit := ()
noncomputable def Mine.all.tw1142058581544160548 : Unit := ()
noncomputable def Mine.all.tw11433317345382964763 : Unit := ()
noncomputable def Mine.all.tw11441816438227186863 : Unit := ()
noncomputable def Mine.all.tw11449233824965966284 : Unit := ()
noncomputable def Mine.all.tw11473507486328240615 : Unit := ()
noncomputable def Mine.all.tw11483514542923596125 : Unit := ()
noncomputable def Mine.all.tw11488495728068971930 : Unit := ()
noncomputable def Mine.all.tw1149733072300507863 : Unit := ()
noncomputable def Mine.all.tw11533779600810293282 : Unit := ()
noncomputable def Mine.all.tw11549785766782931663 : Unit := ()
noncomputable def Mine.all.tw11563076530477234726 : Unit := ()
noncomputable def Mine.all.tw11573567738276184859 : Unit := ()
noncomputable def Mine.all.tw11608023947343846416 : Unit := ()
noncomputable def Mine.all.tw11639333894188339638 : Unit := ()
noncomputable def Mine.all.tw11658462952560688381 : Unit := ()
noncomputable def Mine.all.tw11665615536025424988 : Unit := ()
noncomputable def Mine.all.tw11682010486851493762 : Unit := ()
noncomputable def Mine.all.tw11706699075341729706 : Unit := ()
noncomputable def Mine.all.tw1172340538976468734 : Unit := ()
noncomputable def Mine.all.tw11738243901336025406 : Unit := ()
noncomputable def Mine.all.tw11757652711159077200 : Unit := ()
noncomputable def Mine.all.tw11759228797649091452 : Unit := ()
noncomputable def Mine.all.tw11777086365064915542 : Unit := ()
noncomputable def Mine.all.tw11784725038316003381 : Unit := ()
noncomputable def Mine.all.tw11785345923209364544 : Unit := ()
noncomputable def Mine.all.tw11790413056962406381 : Unit := ()
noncomputable def Mine.all.tw11795751877021904696 : Unit := ()
noncomputable def Mine.all.tw11798761498685784450 : Unit := ()
noncomputable def Mine.all.tw1181928336742247333 : Unit := ()
noncomputable def Mine.all.tw11833095699794131469 : Unit := ()
noncomputable def Mine.all.tw11833515131569705653 : Unit := ()
noncomputable def Mine.all.tw11875289679684398173 : Unit := ()
noncomputable def Mine.all.tw11884583355970431823 : Unit := ()
noncomputable def Mine.all.tw11888049472147760879 : Unit := ()
noncomputable def Mine.all.tw11904431243951574334 : Unit := ()
noncomputable def Mine.all.tw11925040711228000680 : Unit := ()
noncomputable def Mine.all.tw11928815663860865973 : Unit := ()
noncomputable def Mine.all.tw11931136993785318394 : Unit := ()
noncomputable def Mine.all.tw11951307492845570281 : Unit := ()
noncomputable def Mine.all.tw11959420509538560460 : Unit := ()
noncomputable def Mine.all.tw11961059351148515626 : Unit := ()
noncomputable def Mine.all.tw11990357761064164650 : Unit := ()
noncomputable def Mine.all.tw12052537262409512078 : Unit := ()
noncomputable def Mine.all.tw12086854489832023308 : Unit := ()
noncomputable def Mine.all.tw12093699491013135689 : Unit := ()
noncomputable def Mine.all.tw12122067901350261443 : Unit := ()
noncomputable def Mine.all.tw12139170077877725708 : Unit := ()
noncomputable def Mine.all.tw12139975045889036140 : Unit := ()
noncomputable def Mine.all.tw12248520049373816357 : Unit := ()
noncomputable def Mine.all.tw12254430714555821875 : Unit := ()
noncomputable def Mine.all.tw12267322187703008927 : Unit := ()
noncomputable def Mine.all.tw12267468486907949403 : Unit := ()
noncomputable def Mine.all.tw12304872625307995750 : Unit := ()
noncomputable def Mine.all.tw12320724196928087214 : Unit := ()
noncomputable def Mine.all.tw12345319411167063811 : Unit := ()
noncomputable def Mine.all.tw12359608480711761030 : Unit := ()
noncomputable def Mine.all.tw12364857061501726476 : Unit := ()
noncomputable def Mine.all.tw12381699962588209086 : Unit := ()
noncomputable def Mine.all.tw12412031795608718596 : Unit := ()
noncomputable def Mine.all.tw12428716410969305734 : Unit := ()
noncomputable def Mine.all.tw12429134901205526213 : Unit := ()
noncomputable def Mine.all.tw12447178028490564450 : Unit := ()
noncomputable def Mine.all.tw12504994543719847139 : Unit := ()
noncomputable def Mine.all.tw12512054102949984058 : Unit := ()
noncomputable def Mine.all.tw125183967897747985 : Unit := ()
noncomputable def Mine.all.tw12540455083557110006 : Unit := ()
noncomputable def Mine.all.tw12563031120210811263 : Unit := ()
noncomputable def Mine.all.tw1257692432398776216 : Unit := ()
noncomputable def Mine.all.tw12588910511511068231 : Unit := ()
noncomputable def Mine.all.tw12638004864335716521 : Unit := ()
noncomputable def Mine.all.tw12670715608682713705 : Unit := ()
noncomputable def Mine.all.tw12674233846100721760 : Unit := ()
noncomputable def Mine.all.tw12724949091593755947 : Unit := ()
noncomputable def Mine.all.tw1274826149173847060 : Unit := ()
noncomputable def Mine.all.tw12784588452913835247 : Unit := ()
noncomputable def Mine.all.tw12791884135346583072 : Unit := ()
noncomputable def Mine.all.tw12803817524326497440 : Unit := ()
noncomputable def Mine.all.tw12819504698909858696 : Unit := ()
noncomputable def Mine.all.tw12875698411003948031 : Unit := ()
noncomputable def Mine.all.tw12885334096101347146 : Unit := ()
noncomputable def Mine.all.tw12899656968702213925 : Unit := ()
noncomputable def Mine.all.tw1298631472846954095 : Unit := ()
noncomputable def Mine.all.tw13005817628092065933 : Unit := ()
noncomputable def Mine.all.tw13027540482245733427 : Unit := ()
noncomputable def Mine.all.tw13042374122123996364 : Unit := ()
noncomputable def Mine.all.tw13057232943065969744 : Unit := ()
noncomputable def Mine.all.tw13071023791616644796 : Unit := ()
noncomputable def Mine.all.tw13098716769926991806 : Unit := ()
noncomputable def Mine.all.tw13109034201388524979 : Unit := ()
noncomputable def Mine.all.tw13113687655016186724 : Unit := ()
noncomputable def Mine.all.tw13131873550985489304 : Unit := ()
noncomputable def Mine.all.tw13132907815185506690 : Unit := ()
noncomputable def Mine.all.tw13135058765949404771 : Unit := ()
noncomputable def Mine.all.tw13138308880297050008 : Unit := ()
noncomputable def Mine.all.tw13159001897076375314 : Unit := ()
noncomputable def Mine.all.tw13172091369480311280 : Unit := ()
noncomputable def Mine.all.tw13185015893256467352 : Unit := ()
noncomputable def Mine.all.tw13186973799741327244 : Unit := ()
noncomputable def Mine.all.tw13215034200063782512 : Unit := ()
noncomputable def Mine.all.tw13215351417096909983 : Unit := ()
noncomputable def Mine.all.tw13220695134330190930 : Unit := ()
noncomputable def Mine.all.tw13233751423148406618 : Unit := ()
noncomputable def Mine.all.tw1323426155142419162 : Unit := ()
noncomputable def Mine.all.tw1326175403826912198 : Unit := ()
noncomputable def Mine.all.tw13270324115958721901 : Unit := ()
noncomputable def Mine.all.tw1327343985113690801 : Unit := ()
noncomputable def Mine.all.tw13280618800183650999 : Unit := ()
noncomputable def Mine.all.tw13282074430368766303 : Unit := ()
noncomputable def Mine.all.tw13283931332471535325 : Unit := ()
noncomputable def Mine.all.tw13320810954380615167 : Unit := ()
noncomputable def Mine.all.tw13338274903956020161 : Unit := ()
noncomputable def Mine.all.tw13358122933769645826 : Unit := ()
noncomputable def Mine.all.tw13358604424828501309 : Unit := ()
noncomputable def Mine.all.tw13370487131934946175 : Unit := ()
noncomputable def Mine.all.tw13400914052796857261 : Unit := ()
noncomputable def Mine.all.tw13423135486485445016 : Unit := ()
noncomputable def Mine.all.tw1342379931026441069 : Unit := ()
noncomputable def Mine.all.tw13428697972904913174 : Unit := ()
noncomputable def Mine.all.tw13429984922391205789 : Unit := ()
noncomputable def Mine.all.tw13431290835526063760 : Unit := ()
noncomputable def Mine.all.tw13467292715098799918 : Unit := ()
noncomputable def Mine.all.tw13492395982464255480 : Unit := ()
noncomputable def Mine.all.tw13492775673106092688 : Unit := ()
noncomputable def Mine.all.tw1350781854575830958 : Unit := ()
noncomputable def Mine.all.tw13537625653133889323 : Unit := ()
noncomputable def Mine.all.tw1356099576862622092 : Unit := ()
noncomputable def Mine.all.tw13586417535379780766 : Unit := ()
noncomputable def Mine.all.tw13596499734656872166 : Unit := ()
noncomputable def Mine.all.tw13608339801890971764 : Unit := ()
noncomputable def Mine.all.tw13652370015207561478 : Unit := ()
noncomputable def Mine.all.tw13657395267715391174 : Unit := ()
noncomputable def Mine.all.tw13678831315298964934 : Unit := ()
noncomputable def Mine.all.tw13752750167953387420 : Unit := ()
noncomputable def Mine.all.tw13788255538012408148 : Unit := ()
noncomputable def Mine.all.tw13799514808605650796 : Unit := ()
noncomputable def Mine.all.tw13809692799925902674 : Unit := ()
noncomputable def Mine.all.tw13897503799994109090 : Unit := ()
noncomputable def Mine.all.tw13900070722340429276 : Unit := ()
noncomputable def Mine.all.tw13912068318134460016 : Unit := ()
noncomputable def Mine.all.tw13928513891281363954 : Unit := ()
noncomputable def Mine.all.tw14044709251442629906 : Unit := ()
noncomputable def Mine.all.tw14057782590025463129 : Unit := ()
noncomputable def Mine.all.tw14066901625076523032 : Unit := ()
noncomputable def Mine.all.tw14068239771850734003 : Unit := ()
noncomputable def Mine.all.tw14074921412963316263 : Unit := ()
noncomputable def Mine.all.tw14076077854437140390 : Unit := ()
noncomputable def Mine.all.tw14081932915414352519 : Unit := ()
noncomputable def Mine.all.tw14099800850047386279 : Unit := ()
noncomputable def Mine.all.tw14106571916235994328 : Unit := ()
noncomputable def Mine.all.tw14124840197023413450 : Unit := ()
noncomputable def Mine.all.tw14137088127444503866 : Unit := ()
noncomputable def Mine.all.tw14151137839513740329 : Unit := ()
noncomputable def Mine.all.tw14199643231683853240 : Unit := ()
noncomputable def Mine.all.tw14201790961670687459 : Unit := ()
noncomputable def Mine.all.tw14204109254541194217 : Unit := ()
noncomputable def Mine.all.tw14209155647100055501 : Unit := ()
noncomputable def Mine.all.tw14211586455995466092 : Unit := ()
noncomputable def Mine.all.tw14229981574245695772 : Unit := ()
noncomputable def Mine.all.tw14274756557212989909 : Unit := ()
noncomputable def Mine.all.tw14279031849638215902 : Unit := ()
noncomputable def Mine.all.tw14310873030558110092 : Unit := ()
noncomputable def Mine.all.tw14331890051309236264 : Unit := ()
noncomputable def Mine.all.tw14332598561130271602 : Unit := ()
noncomputable def Mine.all.tw14334803219462250954 : Unit := ()
noncomputable def Mine.all.tw14365998534574843411 : Unit := ()
noncomputable def Mine.all.tw14368738876465072522 : Unit := ()
noncomputable def Mine.all.tw14369711331093494773 : Unit := ()
noncomputable def Mine.all.tw1441969693819510846 : Unit := ()
noncomputable def Mine.all.tw14420213329864412023 : Unit := ()
noncomputable def Mine.all.tw14421808642430287336 : Unit := ()
noncomputable def Mine.all.tw1446525512094189494 : Unit := ()
noncomputable def Mine.all.tw14478419276589960357 : Unit := ()
noncomputable def Mine.all.tw14497616064866002163 : Unit := ()
noncomputable def Mine.all.tw14511287757244466272 : Unit := ()
noncomputable def Mine.all.tw14523845485542788104 : Unit := ()
noncomputable def Mine.all.tw14541659766323124216 : Unit := ()
noncomputable def Mine.all.tw14549113301119539810 : Unit := ()
noncomputable def Mine.all.tw1463055204123409192 : Unit := ()
noncomputable def Mine.all.tw14647661154017913664 : Unit := ()
noncomputable def Mine.all.tw14661163797125724070 : Unit := ()
noncomputable def Mine.all.tw14721843458392949018 : Unit := ()
noncomputable def Mine.all.tw14753627124330771394 : Unit := ()
noncomputable def Mine.all.tw1475622787907377276 : Unit := ()
noncomputable def Mine.all.tw14822214895437561417 : Unit := ()
noncomputable def Mine.all.tw14832718209330476552 : Unit := ()
noncomputable def Mine.all.tw14847532645272441617 : Unit := ()
noncomputable def Mine.all.tw14848961488311411958 : Unit := ()
noncomputable def Mine.all.tw14849280956162755979 : Unit := ()
noncomputable def Mine.all.tw14853665493834295914 : Unit := ()
noncomputable def Mine.all.tw14883968960377749705 : Unit := ()
noncomputable def Mine.all.tw14904704724044331575 : Unit := ()
noncomputable def Mine.all.tw14911824527424751230 : Unit := ()
noncomputable def Mine.all.tw14932615516516682873 : Unit := ()
noncomputable def Mine.all.tw14953325984322379511 : Unit := ()
noncomputable def Mine.all.tw14970210157437980911 : Unit := ()
noncomputable def Mine.all.tw14971269681375995079 : Unit := ()
noncomputable def Mine.all.tw14984247238865676675 : Unit := ()
noncomputable def Mine.all.tw14989955638788694861 : Unit := ()
noncomputable def Mine.all.tw15014361466247048854 : Unit := ()
noncomputable def Mine.all.tw15021512155152510720 : Unit := ()
noncomputable def Mine.all.tw15054863418237798948 : Unit := ()
noncomputable def Mine.all.tw15059917014629022394 : Unit := ()
noncomputable def Mine.all.tw15081044799308232511 : Unit := ()
noncomputable def Mine.all.tw15097909243742831393 : Unit := ()
noncomputable def Mine.all.tw15105651507014581045 : Unit := ()
noncomputable def Mine.all.tw1512304892737732121 : Unit := ()
noncomputable def Mine.all.tw15145278206449419223 : Unit := ()
noncomputable def Mine.all.tw15151187641303801864 : Unit := ()
noncomputable def Mine.all.tw1515648671985560317 : Unit := ()
noncomputable def Mine.all.tw15158558636265767147 : Unit := ()
noncomputable def Mine.all.tw15168308629319442981 : Unit := ()
noncomputable def Mine.all.tw15176617289070330970 : Unit := ()
noncomputable def Mine.all.tw15198316981687975854 : Unit := ()
noncomputable def Mine.all.tw15214423783382671123 : Unit := ()
noncomputable def Mine.all.tw15248031165874397040 : Unit := ()
noncomputable def Mine.all.tw15298119835317213847 : Unit := ()
noncomputable def Mine.all.tw15300001336698509272 : Unit := ()
noncomputable def Mine.all.tw15305453227285626446 : Unit := ()
noncomputable def Mine.all.tw15309484375228292530 : Unit := ()
noncomputable def Mine.all.tw15331906349341453337 : Unit := ()
noncomputable def Mine.all.tw15349560271838185979 : Unit := ()
noncomputable def Mine.all.tw15389465554420088467 : Unit := ()
noncomputable def Mine.all.tw15417909909646571957 : Unit := ()
noncomputable def Mine.all.tw15429038253546691098 : Unit := ()
noncomputable def Mine.all.tw15434274335043249755 : Unit := ()
noncomputable def Mine.all.tw15471726915170369524 : Unit := ()
noncomputable def Mine.all.tw15519761934197397234 : Unit := ()
noncomputable def Mine.all.tw15526263569004567679 : Unit := ()
noncomputable def Mine.all.tw15541118713287057729 : Unit := ()
noncomputable def Mine.all.tw15585509438621463966 : Unit := ()
noncomputable def Mine.all.tw15616977368355137958 : Unit := ()
noncomputable def Mine.all.tw15651733941924773997 : Unit := ()
noncomputable def Mine.all.tw15658559082620302479 : Unit := ()
noncomputable def Mine.all.tw15670805634923389295 : Unit := ()
noncomputable def Mine.all.tw15671812041987572844 : Unit := ()
noncomputable def Mine.all.tw15717111371951823431 : Unit := ()
noncomputable def Mine.all.tw15754699064748916945 : Unit := ()
noncomputable def Mine.all.tw15766547542915688834 : Unit := ()
noncomputable def Mine.all.tw15849158762323818722 : Unit := ()
noncomputable def Mine.all.tw15888951733556516598 : Unit := ()
noncomputable def Mine.all.tw15956041502665293837 : Unit := ()
noncomputable def Mine.all.tw15977508845680753073 : Unit := ()
noncomputable def Mine.all.tw15991472142188878074 : Unit := ()
noncomputable def Mine.all.tw16016398639907115627 : Unit := ()
noncomputable def Mine.all.tw1604050991321148793 : Unit := ()
noncomputable def Mine.all.tw16042742768279583112 : Unit := ()
noncomputable def Mine.all.tw16050607636748323804 : Unit := ()
noncomputable def Mine.all.tw16053908350159596564 : Unit := ()
noncomputable def Mine.all.tw16057471521750792484 : Unit := ()
noncomputable def Mine.all.tw16083011106298858529 : Unit := ()
noncomputable def Mine.all.tw16084742875079473383 : Unit := ()
noncomputable def Mine.all.tw16097505516487973002 : Unit := ()
noncomputable def Mine.all.tw16130472912686867234 : Unit := ()
noncomputable def Mine.all.tw16136937179128050694 : Unit := ()
noncomputable def Mine.all.tw16149317719023688252 : Unit := ()
noncomputable def Mine.all.tw16169115639287123334 : Unit := ()
noncomputable def Mine.all.tw16171933092410999983 : Unit := ()
noncomputable def Mine.all.tw16176830815697697194 : Unit := ()
noncomputable def Mine.all.tw16183010546200382306 : Unit := ()
noncomputable def Mine.all.tw16188822405700688499 : Unit := ()
noncomputable def Mine.all.tw16215753837559589999 : Unit := ()
noncomputable def Mine.all.tw16232008947845578158 : Unit := ()
noncomputable def Mine.all.tw16254912398560273435 : Unit := ()
noncomputable def Mine.all.tw16296590348105434372 : Unit := ()
noncomputable def Mine.all.tw16339503202031470875 : Unit := ()
noncomputable def Mine.all.tw16344876080836181191 : Unit := ()
noncomputable def Mine.all.tw16354672406610356589 : Unit := ()
noncomputable def Mine.all.tw16396720132940187912 : Unit := ()
noncomputable def Mine.all.tw1639981616727947583 : Unit := ()
noncomputable def Mine.all.tw16400751074865733910 : Unit := ()
noncomputable def Mine.all.tw16456409905306380572 : Unit := ()
noncomputable def Mine.all.tw16490853721002535474 : Unit := ()
noncomputable def Mine.all.tw16526751206710464603 : Unit := ()
noncomputable def Mine.all.tw16567661231398824811 : Unit := ()
noncomputable def Mine.all.tw16592893570014863828 : Unit := ()
noncomputable def Mine.all.tw16636436465759865564 : Unit := ()
noncomputable def Mine.all.tw16644902639655322133 : Unit := ()
noncomputable def Mine.all.tw16690688178146139053 : Unit := ()
noncomputable def Mine.all.tw16694476904998839863 : Unit := ()
noncomputable def Mine.all.tw16700318575013349798 : Unit := ()
noncomputable def Mine.all.tw16705860606270256717 : Unit := ()
noncomputable def Mine.all.tw16707023172919728626 : Unit := ()
noncomputable def Mine.all.tw16711731339798493391 : Unit := ()
noncomputable def Mine.all.tw16717855531504838629 : Unit := ()
noncomputable def Mine.all.tw16720883766928916882 : Unit := ()
noncomputable def Mine.all.tw16726255535346028473 : Unit := ()
noncomputable def Mine.all.tw16727532447511142511 : Unit := ()
noncomputable def Mine.all.tw16739083755425606968 : Unit := ()
noncomputable def Mine.all.tw16739844878667351699 : Unit := ()
noncomputable def Mine.all.tw16773635481313006432 : Unit := ()
noncomputable def Mine.all.tw16779862611959906862 : Unit := ()
noncomputable def Mine.all.tw16785538882571980543 : Unit := ()
noncomputable def Mine.all.tw16788233547135642414 : Unit := ()
noncomputable def Mine.all.tw16838893715234930207 : Unit := ()
noncomputable def Mine.all.tw16914399131622226476 : Unit := ()
noncomputable def Mine.all.tw1694654335647164047 : Unit := ()
noncomputable def Mine.all.tw16949009020806574942 : Unit := ()
noncomputable def Mine.all.tw16985871876413990642 : Unit := ()
noncomputable def Mine.all.tw17053130121481772103 : Unit := ()
noncomputable def Mine.all.tw17064833945692052252 : Unit := ()
noncomputable def Mine.all.tw17084071853196174921 : Unit := ()
noncomputable def Mine.all.tw17103938086974590038 : Unit := ()
noncomputable def Mine.all.tw17106608494224303150 : Unit := ()
noncomputable def Mine.all.tw17169257567123136711 : Unit := ()
noncomputable def Mine.all.tw17172520439673271139 : Unit := ()
noncomputable def Mine.all.tw1717485560449817402 : Unit := ()
noncomputable def Mine.all.tw17175008277316708827 : Unit := ()
noncomputable def Mine.all.tw17191767797967847670 : Unit := ()
noncomputable def Mine.all.tw17280058572107053691 : Unit := ()
noncomputable def Mine.all.tw17292822351017121783 : Unit := ()
noncomputable def Mine.all.tw17314943208353570444 : Unit := ()
noncomputable def Mine.all.tw17360653242477243975 : Unit := ()
noncomputable def Mine.all.tw17371863055441782679 : Unit := ()
noncomputable def Mine.all.tw17392724365078165257 : Unit := ()
noncomputable def Mine.all.tw17393663094203119047 : Unit := ()
noncomputable def Mine.all.tw17394647144938102915 : Unit := ()
noncomputable def Mine.all.tw17403763406149298341 : Unit := ()
noncomputable def Mine.all.tw17408048037380319038 : Unit := ()
noncomputable def Mine.all.tw17408919567675379883 : Unit := ()
noncomputable def Mine.all.tw17411639873488161413 : Unit := ()
noncomputable def Mine.all.tw17424916104665291489 : Unit := ()
noncomputable def Mine.all.tw17428158056870116351 : Unit := ()
noncomputable def Mine.all.tw17447734377096445370 : Unit := ()
noncomputable def Mine.all.tw17468886310826310451 : Unit := ()
noncomputable def Mine.all.tw17469454598705902373 : Unit := ()
noncomputable def Mine.all.tw17478165661194886154 : Unit := ()
noncomputable def Mine.all.tw17485024515217194642 : Unit := ()
noncomputable def Mine.all.tw17492785332073455090 : Unit := ()
noncomputable def Mine.all.tw1750280776747563624 : Unit := ()
noncomputable def Mine.all.tw17523770736405063376 : Unit := ()
noncomputable def Mine.all.tw17524971357909122501 : Unit := ()
noncomputable def Mine.all.tw1758426702102747128 : Unit := ()
noncomputable def Mine.all.tw17590515576409907731 : Unit := ()
noncomputable def Mine.all.tw17606682298306965290 : Unit := ()
noncomputable def Mine.all.tw17641132596996861625 : Unit := ()
noncomputable def Mine.all.tw17649563190096193141 : Unit := ()
noncomputable def Mine.all.tw17657238230949819594 : Unit := ()
noncomputable def Mine.all.tw1768962640154500726 : Unit := ()
noncomputable def Mine.all.tw17692270503977150241 : Unit := ()
noncomputable def Mine.all.tw17711910997332876922 : Unit := ()
noncomputable def Mine.all.tw17740860788197283744 : Unit := ()
noncomputable def Mine.all.tw17755134530948824434 : Unit := ()
noncomputable def Mine.all.tw1778775279875527610 : Unit := ()
noncomputable def Mine.all.tw17800948086707717751 : Unit := ()
noncomputable def Mine.all.tw17840812128005083152 : Unit := ()
noncomputable def Mine.all.tw17843529362963011488 : Unit := ()
noncomputable def Mine.all.tw17846619120630023766 : Unit := ()
noncomputable def Mine.all.tw17848959056065924907 : Unit := ()
noncomputable def Mine.all.tw17899929404969355535 : Unit := ()
noncomputable def Mine.all.tw17933553581876595578 : Unit := ()
noncomputable def Mine.all.tw18049625680988847952 : Unit := ()
noncomputable def Mine.all.tw18052197330547352278 : Unit := ()
noncomputable def Mine.all.tw18068929663759586442 : Unit := ()
noncomputable def Mine.all.tw18074533905802821072 : Unit := ()
noncomputable def Mine.all.tw18094267598192979275 : Unit := ()
noncomputable def Mine.all.tw18107075240765231021 : Unit := ()
noncomputable def Mine.all.tw18111398738982083773 : Unit := ()
noncomputable def Mine.all.tw18118164260907729349 : Unit := ()
noncomputable def Mine.all.tw18120535436291149196 : Unit := ()
noncomputable def Mine.all.tw18124843273605240230 : Unit := ()
noncomputable def Mine.all.tw18155504808890310260 : Unit := ()
noncomputable def Mine.all.tw18197408797884230400 : Unit := ()
noncomputable def Mine.all.tw18216745520431054769 : Unit := ()
noncomputable def Mine.all.tw18291108133853008933 : Unit := ()
noncomputable def Mine.all.tw1832691508475867565 : Unit := ()
noncomputable def Mine.all.tw18343157571677020557 : Unit := ()
noncomputable def Mine.all.tw1834627630568429925 : Unit := ()
noncomputable def Mine.all.tw18372220700587324537 : Unit := ()
noncomputable def Mine.all.tw18387711765015558698 : Unit := ()
noncomputable def Mine.all.tw18422150028754028023 : Unit := ()
noncomputable def Mine.all.tw18433079168191953831 : Unit := ()
noncomputable def Mine.all.tw18433669859833586122 : Unit := ()
noncomputable def Mine.all.tw18440353960458814819 : Unit := ()
noncomputable def Mine.all.tw1848905817553068399 : Unit := ()
noncomputable def Mine.all.tw1855031267851712589 : Unit := ()
noncomputable def Mine.all.tw1855790973753452216 : Unit := ()
noncomputable def Mine.all.tw1859658367360657537 : Unit := ()
noncomputable def Mine.all.tw1885294564261713141 : Unit := ()
noncomputable def Mine.all.tw1904651353081489755 : Unit := ()
noncomputable def Mine.all.tw1918329577357227785 : Unit := ()
noncomputable def Mine.all.tw192000312749056594 : Unit := ()
noncomputable def Mine.all.tw1923041757053545603 : Unit := ()
noncomputable def Mine.all.tw1952271074336754825 : Unit := ()
noncomputable def Mine.all.tw1957997846565066766 : Unit := ()
noncomputable def Mine.all.tw1973140245219671491 : Unit := ()
noncomputable def Mine.all.tw2000609977361463965 : Unit := ()
noncomputable def Mine.all.tw200952908838891698 : Unit := ()
noncomputable def Mine.all.tw2009799518882185817 : Unit := ()
noncomputable def Mine.all.tw2013830700403712203 : Unit := ()
noncomputable def Mine.all.tw201708328148552895 : Unit := ()
noncomputable def Mine.all.tw2020152571437148077 : Unit := ()
noncomputable def Mine.all.tw2026663507151813987 : Unit := ()
noncomputable def Mine.all.tw2052171217396625959 : Unit := ()
noncomputable def Mine.all.tw2054712967208431000 : Unit := ()
noncomputable def Mine.all.tw2058226730332341692 : Unit := ()
noncomputable def Mine.all.tw2083923931733385956 : Unit := ()
noncomputable def Mine.all.tw2114198189418970486 : Unit := ()
noncomputable def Mine.all.tw2144533961223786307 : Unit := ()
noncomputable def Mine.all.tw2186769121901082974 : Unit := ()
noncomputable def Mine.all.tw2226997731462787175 : Unit := ()
noncomputable def Mine.all.tw225468126006155290 : Unit := ()
noncomputable def Mine.all.tw2283436932631721306 : Unit := ()
noncomputable def Mine.all.tw2286941943676669977 : Unit := ()
noncomputable def Mine.all.tw2305613221535706149 : Unit := ()
noncomputable def Mine.all.tw232116979997021311 : Unit := ()
noncomputable def Mine.all.tw2366535826993118143 : Unit := ()
noncomputable def Mine.all.tw2411416631991128293 : Unit := ()
noncomputable def Mine.all.tw2418778996340132948 : Unit := ()
noncomputable def Mine.all.tw2458865440071689523 : Unit := ()
noncomputable def Mine.all.tw2494268533263957097 : Unit := ()
noncomputable def Mine.all.tw2496985677507960046 : Unit := ()
noncomputable def Mine.all.tw2505929647970302546 : Unit := ()
noncomputable def Mine.all.tw2526586164005440621 : Unit := ()
noncomputable def Mine.all.tw2531900633515307401 : Unit := ()
noncomputable def Mine.all.tw2543849888741498996 : Unit := ()
noncomputable def Mine.all.tw2546312148762916157 : Unit := ()
noncomputable def Mine.all.tw257987315190162868 : Unit := ()
noncomputable def Mine.all.tw2613816272192447989 : Unit := ()
noncomputable def Mine.all.tw2627396739876165418 : Unit := ()
noncomputable def Mine.all.tw2638793534194840904 : Unit := ()
noncomputable def Mine.all.tw2640984773516398845 : Unit := ()
noncomputable def Mine.all.tw2691668035437834406 : Unit := ()
noncomputable def Mine.all.tw2713721821649016782 : Unit := ()
noncomputable def Mine.all.tw2750322548573693319 : Unit := ()
noncomputable def Mine.all.tw2771189538260035858 : Unit := ()
noncomputable def Mine.all.tw2792250951161479536 : Unit := ()
noncomputable def Mine.all.tw2798396993581604531 : Unit := ()
noncomputable def Mine.all.tw2816474811461910954 : Unit := ()
noncomputable def Mine.all.tw2827311647523273057 : Unit := ()
noncomputable def Mine.all.tw282994513109133150 : Unit := ()
noncomputable def Mine.all.tw2863937026978368667 : Unit := ()
noncomputable def Mine.all.tw2891402810631288588 : Unit := ()
noncomputable def Mine.all.tw2894014611722864658 : Unit := ()
noncomputable def Mine.all.tw2901220350088373138 : Unit := ()
noncomputable def Mine.all.tw2901642248887229185 : Unit := ()
noncomputable def Mine.all.tw2944620925249736492 : Unit := ()
noncomputable def Mine.all.tw2952443577683475457 : Unit := ()
noncomputable def Mine.all.tw2972125363121769464 : Unit := ()
noncomputable def Mine.all.tw2995925781233325151 : Unit := ()
noncomputable def Mine.all.tw2997595627926355555 : Unit := ()
noncomputable def Mine.all.tw29985565223642888 : Unit := ()
noncomputable def Mine.all.tw3006146034401029692 : Unit := ()
noncomputable def Mine.all.tw3011970122397266958 : Unit := ()
noncomputable def Mine.all.tw3018527617310638102 : Unit := ()
noncomputable def Mine.all.tw3020832510069240704 : Unit := ()
noncomputable def Mine.all.tw3082626142003458053 : Unit := ()
noncomputable def Mine.all.tw3138800457800853586 : Unit := ()
noncomputable def Mine.all.tw3140247085548477035 : Unit := ()
noncomputable def Mine.all.tw3140866203998610647 : Unit := ()
noncomputable def Mine.all.tw3153289441736887298 : Unit := ()
noncomputable def Mine.all.tw3165661143165402847 : Unit := ()
noncomputable def Mine.all.tw3185962312253278316 : Unit := ()
noncomputable def Mine.all.tw319109541562411609 : Unit := ()
noncomputable def Mine.all.tw3208532927677382203 : Unit := ()
noncomputable def Mine.all.tw3225869345168946285 : Unit := ()
noncomputable def Mine.all.tw3282140407130366615 : Unit := ()
noncomputable def Mine.all.tw328508388705569248 : Unit := ()
noncomputable def Mine.all.tw3301142437192073055 : Unit := ()
noncomputable def Mine.all.tw3318330705443729038 : Unit := ()
noncomputable def Mine.all.tw3339628229899013760 : Unit := ()
noncomputable def Mine.all.tw3347175955162335329 : Unit := ()
noncomputable def Mine.all.tw3357559941945735724 : Unit := ()
noncomputable def Mine.all.tw3390864358609898268 : Unit := ()
noncomputable def Mine.all.tw3440317332850252569 : Unit := ()
noncomputable def Mine.all.tw3443626597506986169 : Unit := ()
noncomputable def Mine.all.tw3448833343719912132 : Unit := ()
noncomputable def Mine.all.tw3477183460249832127 : Unit := ()
noncomputable def Mine.all.tw3516009707026607567 : Unit := ()
noncomputable def Mine.all.tw3527972740633252992 : Unit := ()
noncomputable def Mine.all.tw3578222212851893600 : Unit := ()
noncomputable def Mine.all.tw3586251380002802234 : Unit := ()
noncomputable def Mine.all.tw3616883902118795587 : Unit := ()
noncomputable def Mine.all.tw3630066180865283129 : Unit := ()
noncomputable def Mine.all.tw3702781205502781313 : Unit := ()
noncomputable def Mine.all.tw3736462546491475853 : Unit := ()
noncomputable def Mine.all.tw3780143478300131934 : Unit := ()
noncomputable def Mine.all.tw3783704252341326843 : Unit := ()
noncomputable def Mine.all.tw3788544764152331944 : Unit := ()
noncomputable def Mine.all.tw3832104259330054055 : Unit := ()
noncomputable def Mine.all.tw3835962111665225711 : Unit := ()
noncomputable def Mine.all.tw3836828690509887502 : Unit := ()
noncomputable def Mine.all.tw3849640880644552707 : Unit := ()
noncomputable def Mine.all.tw3888449669307625334 : Unit := ()
noncomputable def Mine.all.tw3898467250045930460 : Unit := ()
noncomputable def Mine.all.tw3941535021885107689 : Unit := ()
noncomputable def Mine.all.tw3949192924188805160 : Unit := ()
noncomputable def Mine.all.tw397829171339713761 : Unit := ()
noncomputable def Mine.all.tw4005113011885737416 : Unit := ()
noncomputable def Mine.all.tw4014216774688872946 : Unit := ()
noncomputable def Mine.all.tw4025807792261511995 : Unit := ()
noncomputable def Mine.all.tw4029833507951201628 : Unit := ()
noncomputable def Mine.all.tw4030748809424043240 : Unit := ()
noncomputable def Mine.all.tw4068328023764021264 : Unit := ()
noncomputable def Mine.all.tw407466490171300439 : Unit := ()
noncomputable def Mine.all.tw4128963183011607505 : Unit := ()
noncomputable def Mine.all.tw4141915090227766502 : Unit := ()
noncomputable def Mine.all.tw4149599496358294919 : Unit := ()
noncomputable def Mine.all.tw4154878040674242839 : Unit := ()
noncomputable def Mine.all.tw4156143147478942181 : Unit := ()
noncomputable def Mine.all.tw4188425034280262744 : Unit := ()
noncomputable def Mine.all.tw419182698790416674 : Unit := ()
noncomputable def Mine.all.tw4195489330254351329 : Unit := ()
noncomputable def Mine.all.tw4198835854440487071 : Unit := ()
noncomputable def Mine.all.tw4215066571649420964 : Unit := ()
noncomputable def Mine.all.tw4222008063812222913 : Unit := ()
noncomputable def Mine.all.tw42283253343031561 : Unit := ()
noncomputable def Mine.all.tw4241227540667249002 : Unit := ()
noncomputable def Mine.all.tw4302931102428780990 : Unit := ()
noncomputable def Mine.all.tw4334908036533502587 : Unit := ()
noncomputable def Mine.all.tw4399895601877587109 : Unit := ()
noncomputable def Mine.all.tw4438364104728389296 : Unit := ()
noncomputable def Mine.all.tw4452577129215390026 : Unit := ()
noncomputable def Mine.all.tw4498182102138418894 : Unit := ()
noncomputable def Mine.all.tw4520282457242773021 : Unit := ()
noncomputable def Mine.all.tw4530070529057472127 : Unit := ()
noncomputable def Mine.all.tw4544264296663088324 : Unit := ()
noncomputable def Mine.all.tw4561188658046838414 : Unit := ()
noncomputable def Mine.all.tw4576187945379360170 : Unit := ()
noncomputable def Mine.all.tw4613487602407358717 : Unit := ()
noncomputable def Mine.all.tw4613981591765525805 : Unit := ()
noncomputable def Mine.all.tw4631590275013254457 : Unit := ()
noncomputable def Mine.all.tw4634341240264483431 : Unit := ()
noncomputable def Mine.all.tw4642380371098665385 : Unit := ()
noncomputable def Mine.all.tw4645612490112672357 : Unit := ()
noncomputable def Mine.all.tw4654466039823199758 : Unit := ()
noncomputable def Mine.all.tw4678464567707920078 : Unit := ()
noncomputable def Mine.all.tw4722931859811370693 : Unit := ()
noncomputable def Mine.all.tw4724732144690109737 : Unit := ()
noncomputable def Mine.all.tw4745343497718738800 : Unit := ()
noncomputable def Mine.all.tw476020514792540505 : Unit := ()
noncomputable def Mine.all.tw4765306392115962693 : Unit := ()
noncomputable def Mine.all.tw4786962568827011835 : Unit := ()
noncomputable def Mine.all.tw4801688742562958406 : Unit := ()
noncomputable def Mine.all.tw4814944892674192296 : Unit := ()
noncomputable def Mine.all.tw4818641064637329869 : Unit := ()
noncomputable def Mine.all.tw4831860214510110302 : Unit := ()
noncomputable def Mine.all.tw4835796080096327916 : Unit := ()
noncomputable def Mine.all.tw4847766330237268548 : Unit := ()
noncomputable def Mine.all.tw4874624691961367025 : Unit := ()
noncomputable def Mine.all.tw4874642235004048027 : Unit := ()
noncomputable def Mine.all.tw4881293885237924411 : Unit := ()
noncomputable def Mine.all.tw4917372365205947823 : Unit := ()
noncomputable def Mine.all.tw4927947371108770993 : Unit := ()
noncomputable def Mine.all.tw4937054150386731785 : Unit := ()
noncomputable def Mine.all.tw4942582282674782268 : Unit := ()
noncomputable def Mine.all.tw4950485280699123642 : Unit := ()
noncomputable def Mine.all.tw4965207536615798822 : Unit := ()
noncomputable def Mine.all.tw497388943360791162 : Unit := ()
noncomputable def Mine.all.tw5002070824922625533 : Unit := ()
noncomputable def Mine.all.tw5008225929384235901 : Unit := ()
noncomputable def Mine.all.tw5036882428077977431 : Unit := ()
noncomputable def Mine.all.tw5044639097624668846 : Unit := ()
noncomputable def Mine.all.tw5061037604254504937 : Unit := ()
noncomputable def Mine.all.tw5103420120806187630 : Unit := ()
noncomputable def Mine.all.tw5113878289174177000 : Unit := ()
noncomputable def Mine.all.tw513455115375776081 : Unit := ()
noncomputable def Mine.all.tw513762853881379114 : Unit := ()
noncomputable def Mine.all.tw5162543521180666497 : Unit := ()
noncomputable def Mine.all.tw5177793798137784044 : Unit := ()
noncomputable def Mine.all.tw5187159431361770467 : Unit := ()
noncomputable def Mine.all.tw5191467471856622273 : Unit := ()
noncomputable def Mine.all.tw5208475258020913449 : Unit := ()
noncomputable def Mine.all.tw5213130599944360801 : Unit := ()
noncomputable def Mine.all.tw5247617807198155932 : Unit := ()
noncomputable def Mine.all.tw5248012151768918434 : Unit := ()
noncomputable def Mine.all.tw525001674005675781 : Unit := ()
noncomputable def Mine.all.tw5283560988149360007 : Unit := ()
noncomputable def Mine.all.tw5284503019443792952 : Unit := ()
noncomputable def Mine.all.tw5287828638854309621 : Unit := ()
noncomputable def Mine.all.tw5313006154424263818 : Unit := ()
noncomputable def Mine.all.tw5346748271633107637 : Unit := ()
noncomputable def Mine.all.tw5377772837010204750 : Unit := ()
noncomputable def Mine.all.tw5387236496596682077 : Unit := ()
noncomputable def Mine.all.tw5402931792415343577 : Unit := ()
noncomputable def Mine.all.tw5418180891519050015 : Unit := ()
noncomputable def Mine.all.tw542624366400354654 : Unit := ()
noncomputable def Mine.all.tw5428718790922064619 : Unit := ()
noncomputable def Mine.all.tw5429014128711783359 : Unit := ()
noncomputable def Mine.all.tw5429111118594065972 : Unit := ()
noncomputable def Mine.all.tw5439016543574858206 : Unit := ()
noncomputable def Mine.all.tw5476054957794708338 : Unit := ()
noncomputable def Mine.all.tw5476340991381562312 : Unit := ()
noncomputable def Mine.all.tw549974085012918235 : Unit := ()
noncomputable def Mine.all.tw5533567317490066488 : Unit := ()
noncomputable def Mine.all.tw5553432485147669529 : Unit := ()
noncomputable def Mine.all.tw5555718599999811639 : Unit := ()
noncomputable def Mine.all.tw5558808128744370633 : Unit := ()
noncomputable def Mine.all.tw5601264028959731896 : Unit := ()
noncomputable def Mine.all.tw5607375399203786892 : Unit := ()
noncomputable def Mine.all.tw5615151462926910227 : Unit := ()
noncomputable def Mine.all.tw5615934883764171431 : Unit := ()
noncomputable def Mine.all.tw561872325786274548 : Unit := ()
noncomputable def Mine.all.tw5641124861440336686 : Unit := ()
noncomputable def Mine.all.tw5657931515703916248 : Unit := ()
noncomputable def Mine.all.tw5689438673786977140 : Unit := ()
noncomputable def Mine.all.tw5718967094426423161 : Unit := ()
noncomputable def Mine.all.tw5727973534668710794 : Unit := ()
noncomputable def Mine.all.tw5747321363474778693 : Unit := ()
noncomputable def Mine.all.tw5750698986362780913 : Unit := ()
noncomputable def Mine.all.tw5761313309558253367 : Unit := ()
noncomputable def Mine.all.tw5781126440621211168 : Unit := ()
noncomputable def Mine.all.tw5795260443874522099 : Unit := ()
noncomputable def Mine.all.tw5815207240830897808 : Unit := ()
noncomputable def Mine.all.tw583233376362171505 : Unit := ()
noncomputable def Mine.all.tw5854907428364158380 : Unit := ()
noncomputable def Mine.all.tw5870148494974776200 : Unit := ()
noncomputable def Mine.all.tw5919330448614353153 : Unit := ()
noncomputable def Mine.all.tw5931688323066260514 : Unit := ()
noncomputable def Mine.all.tw5936211784296988740 : Unit := ()
noncomputable def Mine.all.tw6028428966107381609 : Unit := ()
noncomputable def Mine.all.tw6041367110252723933 : Unit := ()
noncomputable def Mine.all.tw6139286003585018396 : Unit := ()
noncomputable def Mine.all.tw6169047396881144633 : Unit := ()
noncomputable def Mine.all.tw6176105912117767087 : Unit := ()
noncomputable def Mine.all.tw6178583632892115015 : Unit := ()
noncomputable def Mine.all.tw6189357195160471388 : Unit := ()
noncomputable def Mine.all.tw6223034424235540279 : Unit := ()
noncomputable def Mine.all.tw62474882234398736 : Unit := ()
noncomputable def Mine.all.tw6279384641404196061 : Unit := ()
noncomputable def Mine.all.tw6280451789465376435 : Unit := ()
noncomputable def Mine.all.tw6323490242551619147 : Unit := ()
noncomputable def Mine.all.tw6388305932248162509 : Unit := ()
noncomputable def Mine.all.tw6393532188824929214 : Unit := ()
noncomputable def Mine.all.tw6405578165278201989 : Unit := ()
noncomputable def Mine.all.tw644719481633286716 : Unit := ()
noncomputable def Mine.all.tw6482840019736640597 : Unit := ()
noncomputable def Mine.all.tw649721667195061312 : Unit := ()
noncomputable def Mine.all.tw6501991097240487319 : Unit := ()
noncomputable def Mine.all.tw6516363680345034613 : Unit := ()
noncomputable def Mine.all.tw6599307440368430976 : Unit := ()
noncomputable def Mine.all.tw6611227686217864527 : Unit := ()
noncomputable def Mine.all.tw6618574068037739696 : Unit := ()
noncomputable def Mine.all.tw6635096433462372448 : Unit := ()
noncomputable def Mine.all.tw6648324312943424196 : Unit := ()
noncomputable def Mine.all.tw6654054744546489139 : Unit := ()
noncomputable def Mine.all.tw6656463916972431421 : Unit := ()
noncomputable def Mine.all.tw6657396460374528378 : Unit := ()
noncomputable def Mine.all.tw6660107465678334527 : Unit := ()
noncomputable def Mine.all.tw6674347012523051200 : Unit := ()
noncomputable def Mine.all.tw6717767316833874322 : Unit := ()
noncomputable def Mine.all.tw6721464258858852875 : Unit := ()
noncomputable def Mine.all.tw6754197919360015719 : Unit := ()
noncomputable def Mine.all.tw6794366774042380578 : Unit := ()
noncomputable def Mine.all.tw6836359950869179439 : Unit := ()
noncomputable def Mine.all.tw6846761488900895589 : Unit := ()
noncomputable def Mine.all.tw68815829978753266 : Unit := ()
noncomputable def Mine.all.tw688713869906780874 : Unit := ()
noncomputable def Mine.all.tw6888782338466086140 : Unit := ()
noncomputable def Mine.all.tw6896591704953265671 : Unit := ()
noncomputable def Mine.all.tw6900727353157573822 : Unit := ()
noncomputable def Mine.all.tw6914026157112416027 : Unit := ()
noncomputable def Mine.all.tw6946980451890315270 : Unit := ()
noncomputable def Mine.all.tw6950096446663180783 : Unit := ()
noncomputable def Mine.all.tw70167423851719575 : Unit := ()
noncomputable def Mine.all.tw7105052966444361425 : Unit := ()
noncomputable def Mine.all.tw7130465076275759521 : Unit := ()
noncomputable def Mine.all.tw7159026401054745538 : Unit := ()
noncomputable def Mine.all.tw7193976414177721783 : Unit := ()
noncomputable def Mine.all.tw7205895575636617080 : Unit := ()
noncomputable def Mine.all.tw7234240908195146063 : Unit := ()
noncomputable def Mine.all.tw7238125184777875665 : Unit := ()
noncomputable def Mine.all.tw7263415099574290149 : Unit := ()
noncomputable def Mine.all.tw7272270352196073673 : Unit := ()
noncomputable def Mine.all.tw7317653850160689691 : Unit := ()
noncomputable def Mine.all.tw7326513783282604209 : Unit := ()
noncomputable def Mine.all.tw7347661181068853997 : Unit := ()
noncomputable def Mine.all.tw7385006340035058783 : Unit := ()
noncomputable def Mine.all.tw741329169588805604 : Unit := ()
noncomputable def Mine.all.tw7473514446972121862 : Unit := ()
noncomputable def Mine.all.tw7491647123525626385 : Unit := ()
noncomputable def Mine.all.tw7492772011675989385 : Unit := ()
noncomputable def Mine.all.tw7500927594516628699 : Unit := ()
noncomputable def Mine.all.tw7514489123796633772 : Unit := ()
noncomputable def Mine.all.tw7522476503852463410 : Unit := ()
noncomputable def Mine.all.tw7546461858588002845 : Unit := ()
noncomputable def Mine.all.tw7555861350897420170 : Unit := ()
noncomputable def Mine.all.tw7580283103339870548 : Unit := ()
noncomputable def Mine.all.tw7596217776887503600 : Unit := ()
noncomputable def Mine.all.tw760045182452098349 : Unit := ()
noncomputable def Mine.all.tw7654578318931278690 : Unit := ()
noncomputable def Mine.all.tw7656661182584010552 : Unit := ()
noncomputable def Mine.all.tw7657994479303150727 : Unit := ()
noncomputable def Mine.all.tw7660858615051961871 : Unit := ()
noncomputable def Mine.all.tw766856551031688912 : Unit := ()
noncomputable def Mine.all.tw76700771618905059 : Unit := ()
noncomputable def Mine.all.tw7673000382406722879 : Unit := ()
noncomputable def Mine.all.tw7686242042924871683 : Unit := ()
noncomputable def Mine.all.tw7736626948064631134 : Unit := ()
noncomputable def Mine.all.tw7741957440794404891 : Unit := ()
noncomputable def Mine.all.tw7755422918602135030 : Unit := ()
noncomputable def Mine.all.tw7779009951696393383 : Unit := ()
noncomputable def Mine.all.tw7785168158365692624 : Unit := ()
noncomputable def Mine.all.tw7787153897808988522 : Unit := ()
noncomputable def Mine.all.tw7824222052329908659 : Unit := ()
noncomputable def Mine.all.tw7852760074147458260 : Unit := ()
noncomputable def Mine.all.tw7855422573467142813 : Unit := ()
noncomputable def Mine.all.tw7857982966288920474 : Unit := ()
noncomputable def Mine.all.tw7888970235439995493 : Unit := ()
noncomputable def Mine.all.tw789461392097075953 : Unit := ()
noncomputable def Mine.all.tw7916663265354606609 : Unit := ()
noncomputable def Mine.all.tw7918374967389245632 : Unit := ()
noncomputable def Mine.all.tw794600220789724118 : Unit := ()
noncomputable def Mine.all.tw7946034326556018432 : Unit := ()
noncomputable def Mine.all.tw8001918424110371838 : Unit := ()
noncomputable def Mine.all.tw803461357374685022 : Unit := ()
noncomputable def Mine.all.tw80721349811472939 : Unit := ()
noncomputable def Mine.all.tw8096221689764760052 : Unit := ()
noncomputable def Mine.all.tw8108845850537571710 : Unit := ()
noncomputable def Mine.all.tw8111057081096800836 : Unit := ()
noncomputable def Mine.all.tw8202304140527541924 : Unit := ()
noncomputable def Mine.all.tw8203446524507428889 : Unit := ()
noncomputable def Mine.all.tw8219367837509555709 : Unit := ()
noncomputable def Mine.all.tw8228839009892406046 : Unit := ()
noncomputable def Mine.all.tw8247663516303736865 : Unit := ()
noncomputable def Mine.all.tw8287356318256789895 : Unit := ()
noncomputable def Mine.all.tw8312510263607220780 : Unit := ()
noncomputable def Mine.all.tw8315046463243809389 : Unit := ()
noncomputable def Mine.all.tw8316665608867782698 : Unit := ()
noncomputable def Mine.all.tw8319732477122346511 : Unit := ()
noncomputable def Mine.all.tw8353643495637310175 : Unit := ()
noncomputable def Mine.all.tw8358485737911388650 : Unit := ()
noncomputable def Mine.all.tw8373720323635723369 : Unit := ()
noncomputable def Mine.all.tw8397605616207071183 : Unit := ()
noncomputable def Mine.all.tw8474492796817999161 : Unit := ()
noncomputable def Mine.all.tw8478819981795894278 : Unit := ()
noncomputable def Mine.all.tw8486705261324164726 : Unit := ()
noncomputable def Mine.all.tw8593244855664925795 : Unit := ()
noncomputable def Mine.all.tw8600759836979252552 : Unit := ()
noncomputable def Mine.all.tw8616835277999145119 : Unit := ()
noncomputable def Mine.all.tw8621771247159374411 : Unit := ()
noncomputable def Mine.all.tw8630030210275731936 : Unit := ()
noncomputable def Mine.all.tw8670540905479144303 : Unit := ()
noncomputable def Mine.all.tw8706731066875689191 : Unit := ()
noncomputable def Mine.all.tw8711421783369662179 : Unit := ()
noncomputable def Mine.all.tw8728704332973717658 : Unit := ()
noncomputable def Mine.all.tw8734355875116408662 : Unit := ()
noncomputable def Mine.all.tw8749193726656077916 : Unit := ()
noncomputable def Mine.all.tw8820459466428253018 : Unit := ()
noncomputable def Mine.all.tw8845110488550816924 : Unit := ()
noncomputable def Mine.all.tw8848042172178993908 : Unit := ()
noncomputable def Mine.all.tw8857914048673524507 : Unit := ()
noncomputable def Mine.all.tw8895101351432721356 : Unit := ()
noncomputable def Mine.all.tw8901488873923373992 : Unit := ()
noncomputable def Mine.all.tw890751993682150155 : Unit := ()
noncomputable def Mine.all.tw8908958038130373740 : Unit := ()
noncomputable def Mine.all.tw8909644736058714228 : Unit := ()
noncomputable def Mine.all.tw8948736912299370593 : Unit := ()
noncomputable def Mine.all.tw8968355716326206664 : Unit := ()
noncomputable def Mine.all.tw9022205114861038860 : Unit := ()
noncomputable def Mine.all.tw9069304868558884969 : Unit := ()
noncomputable def Mine.all.tw9090173269774583996 : Unit := ()
noncomputable def Mine.all.tw9107108562952019494 : Unit := ()
noncomputable def Mine.all.tw9111709882147129655 : Unit := ()
noncomputable def Mine.all.tw9131408386013701786 : Unit := ()
noncomputable def Mine.all.tw9133701021851612117 : Unit := ()
noncomputable def Mine.all.tw9142619525353888168 : Unit := ()
noncomputable def Mine.all.tw9162937214259807713 : Unit := ()
noncomputable def Mine.all.tw9179554920180893090 : Unit := ()
noncomputable def Mine.all.tw9186790425516483314 : Unit := ()
noncomputable def Mine.all.tw9196661522157602471 : Unit := ()
noncomputable def Mine.all.tw9217909395155117419 : Unit := ()
noncomputable def Mine.all.tw9241353231930656577 : Unit := ()
noncomputable def Mine.all.tw927500100414286832 : Unit := ()
noncomputable def Mine.all.tw9287027879207543111 : Unit := ()
noncomputable def Mine.all.tw9296243409744850896 : Unit := ()
noncomputable def Mine.all.tw9301309066579124778 : Unit := ()
noncomputable def Mine.all.tw9305783451064888827 : Unit := ()
noncomputable def Mine.all.tw9314798274900717190 : Unit := ()
noncomputable def Mine.all.tw9330773133516755548 : Unit := ()
noncomputable def Mine.all.tw9351078540693612215 : Unit := ()
noncomputable def Mine.all.tw9360291227372296245 : Unit := ()
noncomputable def Mine.all.tw9379264858417805688 : Unit := ()
noncomputable def Mine.all.tw9386671084012761886 : Unit := ()
noncomputable def Mine.all.tw9397017562490477109 : Unit := ()
noncomputable def Mine.all.tw9401997163390822312 : Unit := ()
noncomputable def Mine.all.tw9405301459192476718 : Unit := ()
noncomputable def Mine.all.tw9448091282758670523 : Unit := ()
noncomputable def Mine.all.tw9455471141526271117 : Unit := ()
noncomputable def Mine.all.tw945595864737313391 : Unit := ()
noncomputable def Mine.all.tw9496632788025766839 : Unit := ()
noncomputable def Mine.all.tw9514876090768664877 : Unit := ()
noncomputable def Mine.all.tw9526568234960664165 : Unit := ()
noncomputable def Mine.all.tw9542685296840862710 : Unit := ()
noncomputable def Mine.all.tw9543871751676338751 : Unit := ()
noncomputable def Mine.all.tw9563361447838699194 : Unit := ()
noncomputable def Mine.all.tw9570754706468278650 : Unit := ()
noncomputable def Mine.all.tw9592678889267232940 : Unit := ()
noncomputable def Mine.all.tw9642480246203547912 : Unit := ()
noncomputable def Mine.all.tw9700313349084285026 : Unit := ()
noncomputable def Mine.all.tw9743695723290020096 : Unit := ()
noncomputable def Mine.all.tw9764797518255496921 : Unit := ()
noncomputable def Mine.all.tw9766123165270683860 : Unit := ()
noncomputable def Mine.all.tw979122770166603329 : Unit := ()
noncomputable def Mine.all.tw9833964599435250050 : Unit := ()
noncomputable def Mine.all.tw9837934778547622032 : Unit := ()
noncomputable def Mine.all.tw9843424985483213050 : Unit := ()
noncomputable def Mine.all.tw9851504500788099362 : Unit := ()
noncomputable def Mine.all.tw9859615716622676948 : Unit := ()
noncomputable def Mine.all.tw9864162776701422008 : Unit := ()
noncomputable def Mine.all.tw9880104001414726515 : Unit := ()
noncomputable def Mine.all.tw9900696922168193843 : Unit := ()
noncomputable def Mine.all.tw9952970006915852218 : Unit := ()
noncomputable def Mine.all.tw9970048360461169880 : Unit := ()
noncomputable def Mine.all.tw9976896545867408452 : Unit := ()
noncomputable def Mine.all.tw9984997112416240561 : Unit := ()
noncomputable def Mine.all.tw9382001262884543845 : Unit := ()
namespace Mine
set_option maxRecDepth 100000 in
set_option maxHeartbeats 8000000 in
set_option Elab.async true in
theorem all : PySem.Challenge.rw_on0255_01.Holds := by
  w_on
  o_law
  o_head (Mine.hook Mine.frame.heap_1 Mine.addrs (fun _ => by kernel_rfl) ())
  (case hw => w_witness2)
  k_fill
  intro w s₀ s₁ mg mb G Y fa o pm cd doc dV kV ho hd hcd hD hmg hg args vals as hpre hlay hrd hwl hlo
  have KX := Mine.hook_says Y
  k_behind G ho hd hcd hD hmg hpre hlay hrd hwl hlo cd
  all_goals (try k_fold)
  rename IntsAre _ _ => hI
  rename Heap.IsList _ _ _ => hL
  rename Fr _ _ _ _ => hF
  rename Top _ _ _ _ _ _ => hT
  rename ¬ ((63 : Nat) : Int) < _ => hcn
  refine' Mine.head_join (below_caller _) KX hT hF hL hI hcn ?k0 ?k1 ?k2 ?k3 (Mine.law_all ?k4) ?k5
  case k0 => exact rfl
  case k1 => exact rfl
  case k2 => exact rfl
  case k3 => exact rfl
  case k4 => (show List.lookup _ (Mine.frame.heap_1 (World.params _)) = _); k_is
  case k5 => intro s' e1 e2 e3; exact Mine.good_true e3 e1 (e2.trans hg)
end Mine
theorem PySem.Challenge.cw_on0255_01_holds : PySem.Challenge.rw_on0255_01.Holds := by
  exact Mine.all
