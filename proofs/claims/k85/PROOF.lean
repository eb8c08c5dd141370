import PyProof.Rows.All
import Wide.All
import OpenK.AllK
import Wide.FinOn
import HandS.ForMost
import HandS.ForExc
import HandS.IsInst
import HandS.ExcIs
import HandS.ExcValue
import HandS.EndBits
import HandS.Wide
import HandS.Zip
import HandS.TryOnly
import HandS.Deep
import HandS.Style
import HandS.Defaults
import HandS.Text
import HandS.StrMore
import HandS.Replace
import HandS.TupAny
import KE.SortData
import KE.DataCmp
import HandS.TupLen
import KE.GoesEnum
import KE.KDictCopyH
import KE.KDictSum
import KE.DatumOrd
import KE.GoesComp
import HandS.SetFor
import HandS.Strs
import HandS.SortInts
import HandS.SortOrd
import HandS.Conv
import HandS.More
import PyProof.SliceSyntax
import KE.OsRunLaw
import HandS.Head0
import HandS.Head1
import HandS.Head2
import HandS.HeadHook1
import PySem.Challenge.RW_halvecut_k85_what_a_sheet_refuses
set_option Elab.async false
set_option linter.all false
set_option maxRecDepth 100000
namespace DL
section
open PySem PySem.W PySem.Calls PyProof.Rows
abbrev hdR : OpenRow := OpenLaw.row PySem.Challenge.rw_halvecut_k85_what_a_sheet_refuses
abbrev hdQ : Program := PySem.W.view hdR.prog [29, 93, 103, 104, 105, 113, 132]
def hdLoose0 : List PySem.Str := ["PlaneError", "NoPlace", "NoLine", "NoDots", "NoMap", "TooFew", "TooMany", "NoSuch", "NoText", "NoAsk", "is_whole", "common", "lowest", "place", "place_of", "sign_of", "swing", "value", "side", "wedge", "negated", "line", "crossing", "FAR", "HEAVY", "is_near", "is_dot", "made_dots", "total", "weighed"]
def hdLoose1 : List PySem.Str := ["ask_map", "sent", "pairs_of", "line_by", "lines_of", "halvers", "halves", "fair_pair", "quarters", "first_halver", "quartered", "ways_from", "weight_at", "beside", "lighter", "depth", "in_order", "rim_below", "hull_of", "hull", "two_shares", "three_shares", "as_one", "as_two", "as_three", "across", "bars", "barred", "mixture", "within"]
def hdLoose2 : List PySem.Str := ["told_by", "lines_among", "crossings_of", "first_told", "two_groups", "threes_of", "twos_of", "all_crossings", "by_threes", "three_groups", "box_of", "met_between", "clipped", "cross_of", "along_of", "nearest_way", "nearest_back", "higher", "bars_at", "common_part", "weight_over", "rims_of", "weighed_sides", "deep_part", "region", "middle", "emptying", "deepest", "show_dot", "show_dots"]
def hdLoose3 : List PySem.Str := ["show_place", "int_of", "read_dot", "read_place", "kinds_behind", "meant", "changed", "listed", "told_of_cuts", "told_of_places", "Sheet", "_law_cell_at", "_law_stream", "_law_dots", "_law_word", "_law_no_asks", "_law_no_texts", "_law_deeds", "_law_kinds", "_law_refused", "_law_undone"]
def hdLoose : List PySem.Str := hdLoose0 ++ (hdLoose1 ++ (hdLoose2 ++ (hdLoose3)))
set_option maxHeartbeats 0 in
theorem hdLaw (h : hdR.wellSaid = true → hdR.Holds) : PySem.Challenge.rw_halvecut_k85_what_a_sheet_refuses.Holds := by
 w_on; o_law
 exact h (by assumption)
local macro_rules | `(tactic| o_headL ($f $K $as $e)) => `(tactic| (assumption))
theorem hdK (h : hdR.Holds) : hdR.Holds := by
 k_headL
def hdAs : List Addr := [2, 3, 15, 22, 23, 24, 25, 28, 35, 36, 37, 40, 47, 48, 49, 52, 59, 60, 61, 64, 71, 72, 73, 76, 83, 84, 85, 88, 95, 96, 97, 100, 107, 108, 109, 112, 119, 120, 121, 124, 131, 132, 133, 136, 138, 139, 141, 142, 143, 145, 146, 148, 149, 150, 153, 154, 155, 157, 158, 160, 161, 162, 164, 165, 167, 168, 169, 171, 172, 174, 175, 176, 178, 179, 181, 182, 183, 186, 187, 188, 190, 191, 193, 194, 195, 197, 198, 200, 201, 202, 204, 205, 207, 208, 209, 211, 212, 214, 215, 216, 218, 219, 221, 222, 223, 225, 226, 228, 229, 230, 232, 233, 235, 236, 237, 240, 241, 242, 243, 246, 247, 248, 249, 251, 252, 254, 255, 256, 258, 259, 261, 262, 263, 265, 266, 268, 269, 270, 272, 273, 275, 276, 277, 279, 280, 282, 283, 284, 287, 288, 289, 292, 293, 294, 295, 297, 298, 300, 301, 302, 304, 305, 307, 308, 309, 311, 312, 314, 315, 316, 318, 319, 321, 322, 323, 325, 326, 328, 329, 330, 332, 333, 335, 336, 337, 340, 341, 342, 344, 345, 347, 348, 349, 351, 352, 354, 355, 356, 359, 360, 361, 364, 365, 366, 368, 369, 371, 372, 373, 375, 376, 378, 379, 380, 383, 384, 385, 387, 388, 390, 391, 392, 395, 396, 397, 399, 400, 402, 403, 404, 406, 407, 409, 410, 411, 413, 414, 416, 417, 418, 420, 421, 423, 424, 425, 428, 429, 430, 433, 434, 435, 437, 438, 440, 441, 442, 445, 446, 447, 449, 450, 452, 453, 454, 456, 457, 459, 460, 461, 463, 464, 466, 467, 468, 470, 471, 473, 474, 475, 478, 479, 480, 483, 484, 485, 488, 489, 490, 493, 494, 495, 498, 499, 500, 502, 503, 505, 506, 507, 510, 511, 512, 514, 515, 517, 518, 519, 521, 522, 524, 525, 526, 528, 529, 531, 532, 533, 535, 536, 538, 539, 540, 542, 543, 545, 546, 547, 549, 550, 552, 553, 554, 556, 557, 559, 560, 561, 564, 565, 566, 568, 569, 571, 572, 573, 575, 576, 578, 579, 580, 583, 584, 585, 587, 588, 590, 591, 592, 595, 596, 597, 599, 600, 602, 603, 604, 606, 607, 609, 610, 611, 613, 614, 616, 617, 618, 621, 622, 623, 625, 626, 628, 629, 630, 633, 634, 635, 637, 638, 640, 641, 642, 644, 645, 647, 648, 649, 651, 652, 654, 655, 656, 658, 659, 661, 662, 663, 665, 666, 668, 669, 670, 672, 673, 675, 676, 677, 679, 680, 682, 683, 684, 687, 688, 689, 691, 692, 694, 695, 696, 699, 700, 708, 710, 711, 713, 714, 715, 717, 718, 720, 721, 722, 724, 725, 727, 728, 729, 732, 733, 734, 735, 736, 737, 738, 741, 743, 744, 746, 747, 748, 750, 751, 753, 754, 755, 758, 759, 760, 762, 763, 765, 766, 767, 769, 770, 772, 773, 774, 776, 777, 779, 780, 781, 783, 784, 786, 787, 788, 790, 791, 793, 794, 795, 798, 799, 800, 803, 804, 805, 808, 809]
theorem hdE (Q : Params) : hdAs = (hdK.heap_1 Q).map (fun q => q.1) := by kernel_rfl
def hdOb (s : SharedT) : List (Option Obj) := hdAs.map (HandSHeadRun.getT s)
theorem hdrun (w : World) : HandSHeadRun.RunEq hdR hdQ (kHook hdK.heap_1 hdAs hdE) hdOb 12000 hdLoose w := by
 intro os
 kernel_rfl
set_option maxHeartbeats 0 in
def hdTop (said : hdR.wellSaid = true) := HandSHeadRun.head_any (r := hdR) (q := hdQ) (H := kHook hdK.heap_1 hdAs hdE) (ob := hdOb) (M := 12000) (loose := hdLoose) (kwd := []) (fun s => List.map_congr_left fun a _ => HandSHeadRun.getT_eq s a) (by kernel_rfl) (fun s => by kernel_rfl) hdrun (by rfl) (by rfl) (by rfl) (by rfl) (by first | exact said | decide +kernel) (by decide +kernel) ⟨rfl, rfl, rfl, rfl, rfl, by decide +kernel⟩
end
end DL
namespace DL
open PySem PySem.Spec PyProof.Rows L2
inductive D where
 | at (v : V)
 | tup (l : List D)
 | lst (l : List D)
 | exc (x : Str)
 | obj (c : Str) (ns : List Str) (l : List D)
 | dct
 | any
def clsOf (K : PySem.W.Frag) (x : Str) : Option Addr := match PySem.W.nsIn K mainGlobals x with
 | some (some (.ref C)) => some C
 | _ => none
abbrev D.int (i : Int) : D := .at (.int i)
abbrev D.bl (b : Bool) : D := .at (.bl b)
abbrev D.non : D := .at .non
abbrev D.str (x : Str) : D := .at (.str x)
abbrev D.ints (l : List Int) : List D := l.map D.int
def ExF (C a : Addr) : HO := .ext fun h => ∃ (oe : Obj) (vs : Array Value), h.get? a = some oe ∧ Zc (.ref C) none oe ∧ oe.data = .fields vs
mutual
inductive Rep (K : PySem.W.Frag) (H : Hp) : V → D → Prop
 | at (v : V) : Rep K H v (.at v)
 | tup {a : Addr} {xs : List V} {ds : List D} : H a = some (.tup xs) → Reps K H xs ds → Rep K H (.ref a) (.tup ds)
 | lst {a : Addr} {xs : List V} {ds : List D} : SqL K H a xs → Reps K H xs ds → Rep K H (.ref a) (.lst ds)
 | exc {a C : Addr} {x : Str} : clsOf K x = some C → H a = some (ExF C a) → Rep K H (.ref a) (.exc x)
 | obj {a C dx : Addr} {c : Str} {ns : List Str} {xs : List V} {ds : List D} : clsOf K c = some C → H a = some (.ins C dx (ns.zip xs)) → ns.length = xs.length → Reps K H xs ds → Rep K H (.ref a) (.obj c ns ds)
 | dct {a : Addr} {kvs : List (Key × V)} : H a = some (.dK kvs) → Rep K H (.ref a) .dct
 | any {a : Addr} : Rep K H (.ref a) .any
inductive Reps (K : PySem.W.Frag) (H : Hp) : List V → List D → Prop
 | nil : Reps K H [] []
 | cons {v : V} {vs : List V} {d : D} {ds : List D} : Rep K H v d → Reps K H vs ds → Reps K H (v :: vs) (d :: ds)
end
theorem tq {K : PySem.W.Frag} {H : Hp} {a : Addr} {xs : List V} (h : H a = some (.tup xs)) : SqT K H a xs := .inl (.inl h)
theorem Same.seqT {K : PySem.W.Frag} {H H' : Hp} {a : Addr} {xs : List V} (e : Same H H') (h : SqT K H a xs) : SqT K H' a xs := by
 rcases h with (h | ⟨o, h⟩) | h
 ·exact .inl (.inl (e _ _ h))
 ·exact .inl (.inr ⟨o, e _ _ h⟩)
 ·exact .inr h
section
variable {K : PySem.W.Frag} {H H' : Hp}
mutual
theorem Rep.mono (e : Same H H') : ∀ (d : D) {v : V}, Rep K H v d → Rep K H' v d
 | .at w, v, h => by cases h; exact .at _
 | .tup ds, v, h => by
  cases h with
  | tup s r => exact .tup (e _ _ s) (Reps.mono e ds r)
 | .lst ds, v, h => by
  cases h with
  | lst s r => exact .lst (e.seq s) (Reps.mono e ds r)
 | .exc C, v, h => by
  cases h with
  | exc c s => exact .exc c (e _ _ s)
 | .obj c ns ds, v, h => by
  cases h with
  | obj c s l r => exact .obj c (e _ _ s) l (Reps.mono e ds r)
 | .dct, v, h => by
  cases h with
  | dct s => exact .dct (e _ _ s)
 | .any, v, h => by cases h; exact .any
theorem Reps.mono (e : Same H H') : ∀ (ds : List D) {vs : List V}, Reps K H vs ds → Reps K H' vs ds
 | [], _, h => by cases h; exact .nil
 | d :: ds, _, h => by
  cases h with
  | cons r rs => exact .cons (Rep.mono e d r) (Reps.mono e ds rs)
end
theorem Reps.length : ∀ {vs : List V} {ds : List D}, Reps K H vs ds → vs.length = ds.length
 | _, _, .nil => rfl
 | _, _, .cons _ r => congrArg (· + 1) (Reps.length r)
theorem Reps.get : ∀ {vs : List V} {ds : List D} {i : Nat} {d : D}, Reps K H vs ds → ds[i]? = some d → ∃ v, vs[i]? = some v ∧ Rep K H v d
 | _, _, _, _, .nil, e => by simp at e
 | _, _, 0, _, .cons r _, e => by simp at e; subst e; exact ⟨_, rfl, r⟩
 | _, _, i + 1, d, .cons _ r, e => by
  obtain ⟨v, h1, h2⟩ := Reps.get (i := i) (d := d) r (by simpa using e)
  exact ⟨v, by simpa using h1, h2⟩
theorem Reps.append : ∀ {vs ws : List V} {ds es : List D}, Reps K H vs ds → Reps K H ws es → Reps K H (vs ++ ws) (ds ++ es)
 | _, _, _, _, .nil, s => s
 | _, _, _, _, .cons r t, s => .cons r (Reps.append t s)
theorem Reps.take : ∀ (n : Nat) {vs : List V} {ds : List D}, Reps K H vs ds → Reps K H (vs.take n) (ds.take n)
 | 0, _, _, _ => .nil
 | _ + 1, _, _, .nil => .nil
 | n + 1, _, _, .cons r t => .cons r (Reps.take n t)
theorem Reps.drop : ∀ (n : Nat) {vs : List V} {ds : List D}, Reps K H vs ds → Reps K H (vs.drop n) (ds.drop n)
 | 0, _, _, r => r
 | _ + 1, _, _, .nil => .nil
 | n + 1, _, _, .cons _ t => Reps.drop n t
theorem Reps.set : ∀ (i : Nat) {v : V} {d : D} {vs : List V} {ds : List D}, Rep K H v d → Reps K H vs ds → Reps K H (vs.set i v) (ds.set i d)
 | _, _, _, _, _, _, .nil => .nil
 | 0, _, _, _, _, r, .cons _ t => .cons r t
 | i + 1, _, _, _, _, r, .cons q t => .cons q (Reps.set i r t)
theorem Reps.one {vs : List V} {d : D} (h : Reps K H vs [d]) : ∃ v, vs = [v] ∧ Rep K H v d := by
 cases h with
 | cons r t => cases t; exact ⟨_, rfl, r⟩
theorem Reps.ats : ∀ {us : List V} {vs : List V}, Reps K H vs (us.map D.at) → vs = us
 | [], _, h => by cases h; rfl
 | u :: us, _, h => by
  cases h with
  | cons r t =>
   cases r
   rw [Reps.ats t]
theorem Reps.of_ats : ∀ (us : List V), Reps K H us (us.map D.at)
 | [] => .nil
 | u :: us => .cons (.at u) (Reps.of_ats us)
theorem Reps.ints {ns : List Int} {vs : List V} (h : Reps K H vs (D.ints ns)) : vs = ns.map V.int := by
 have e : D.ints ns = (ns.map V.int).map D.at := by simp [D.ints, Function.comp_def]
 rw [e] at h
 exact h.ats
theorem Reps.of_ints (ns : List Int) : Reps K H (ns.map V.int) (D.ints ns) := by
 have e : D.ints ns = (ns.map V.int).map D.at := by simp [D.ints, Function.comp_def]
 rw [e]
 exact .of_ats _
end
abbrev RepKV (K : PySem.W.Frag) (H : Hp) : List (List Key × V) → List (List Key × D) → Prop := Paired fun p q => p.1 = q.1 ∧ Rep K H p.2 q.2
theorem RepKV.mono {K : PySem.W.Frag} {H H' : Hp} (e : Same H H') {xs : List (List Key × V)} {ds : List (List Key × D)} (h : RepKV K H xs ds) : RepKV K H' xs ds := Paired.mapP h fun _ _ z => ⟨z.1, Rep.mono e _ z.2⟩
inductive GK where
 | dct (ks : List Int)
 | obj (c : Str) (ns : List Str)
 | lst
 | lent (j : Nat) (k : GK)
def GForm (K : PySem.W.Frag) (le : List Addr) (a : Addr) : GK → List V → HO → Prop
 | .dct ks, xs, o => ks.length = xs.length ∧ o = .dK ((ks.map Sum.inl).zip xs)
 | .obj c ns, xs, o => ns.length = xs.length ∧ ∃ Cl dx, clsOf K c = some Cl ∧ o = .ins Cl dx (ns.zip xs)
 | .lst, xs, o => o = .lst xs
 | .lent j k, xs, o => le[j]? = some a ∧ GForm K le a k xs o
theorem GForm.atT {K : PySem.W.Frag} {le : List Addr} {a : Addr} : ∀ {k : GK} {xs : List V} {o : HO}, GForm K le a k xs o → ∀ ys, o ≠ .tup ys
 | .dct _, _, _, ⟨_, e⟩ => fun _ z => by rw [e] at z; cases z
 | .obj _ _, _, _, ⟨_, _, _, _, e⟩ => fun _ z => by rw [e] at z; cases z
 | .lst, _, _, e => fun _ z => by rw [show _ = _ from e] at z; cases z
 | .lent _ k, _, _, ⟨_, e⟩ => GForm.atT (k := k) e
inductive En where
 | no
 | im (d : D)
 | ow (a : Addr) (ds : List D)
 | od (a : Addr) (kvs : List (List Key × D))
 | ot (as : List Addr) (d : D)
 | og (a : Addr) (k : GK) (ds : List D)
abbrev Rho := List En
def En.own : En → List Addr
 | .ow a _ => [a]
 | .od a _ => [a]
 | .ot as _ => as
 | .og a _ _ => [a]
 | _ => []
def ows (ρ : Rho) : List Addr := ρ.flatMap En.own
mutual
def D.noL : D → Bool
 | .at _ => true
 | .tup ds => D.noLs ds
 | .lst _ => false
 | .exc _ => false
 | .obj _ _ _ => false
 | .dct => false
 | .any => false
def D.noLs : List D → Bool
 | [] => true
 | d :: ds => D.noL d && D.noLs ds
end
def D.isFl : D → Bool
 | .lst l => D.noLs l
 | _ => false
def D.allFl : List D → Bool
 | [] => true
 | d :: ds => D.isFl d && D.allFl ds
mutual
inductive RepT (K : PySem.W.Frag) (W H : Hp) : V → D → List Addr → Prop
 | leaf {v : V} {d : D} (r : Rep K W v d) (n : d.noL = true) : RepT K W H v d []
 | lst {a : Addr} {xs : List V} {ds : List D} {as : List Addr} {na : a ∉ as} {nd : D.allFl ds = true → as.Nodup} (s : H a = some (.lst xs)) (r : RepTs K W H xs ds as) : RepT K W H (.ref a) (.lst ds) (a :: as)
 | tup {a : Addr} {xs : List V} {ds : List D} {as : List Addr} (s : W a = some (.tup xs)) (r : RepTs K W H xs ds as) : RepT K W H (.ref a) (.tup ds) as
inductive RepTs (K : PySem.W.Frag) (W H : Hp) : List V → List D → List Addr → Prop
 | nil : RepTs K W H [] [] []
 | cons {v : V} {d : D} {vs : List V} {ds : List D} {as bs : List Addr} (r : RepT K W H v d as) (t : RepTs K W H vs ds bs) : RepTs K W H (v :: vs) (d :: ds) (as ++ bs)
end
section
variable {K : PySem.W.Frag} {W W' H H' : Hp}
mutual
theorem RepT.mono (e : Same W W') : ∀ (d : D) {v : V} {as : List Addr}, (∀ a ∈ as, H a = H' a) → RepT K W H v d as → RepT K W' H' v d as
 | d, _, _, f, .leaf r n => .leaf (Rep.mono e d r) n
 | .lst ds, _, _, f, .lst (na := na) (nd := nd) s r => .lst (na := na) (nd := nd) (by rw [← f _ List.mem_cons_self]; exact s) (RepTs.mono e ds (fun a h => f a (List.mem_cons_of_mem _ h)) r)
 | .tup ds, _, _, f, .tup s r => .tup (e _ _ s) (RepTs.mono e ds f r)
theorem RepTs.mono (e : Same W W') : ∀ (ds : List D) {vs : List V} {as : List Addr}, (∀ a ∈ as, H a = H' a) → RepTs K W H vs ds as → RepTs K W' H' vs ds as
 | [], _, _, _, .nil => .nil
 | d :: ds, _, _, f, .cons r t => .cons (RepT.mono e d (fun a h => f a (List.mem_append_left _ h)) r) (RepTs.mono e ds (fun a h => f a (List.mem_append_right _ h)) t)
end
mutual
theorem RepT.rep (e : Same W W') : ∀ (d : D) {v : V} {as : List Addr}, (∀ a ∈ as, W' a = H a) → RepT K W H v d as → Rep K W' v d
 | d, _, _, f, .leaf r n => Rep.mono e d r
 | .lst ds, _, _, f, .lst s r => .lst (.inl (.inl (by rw [f _ List.mem_cons_self]; exact s))) (RepTs.rep e ds (fun a h => f a (List.mem_cons_of_mem _ h)) r)
 | .tup ds, _, _, f, .tup s r => .tup (e _ _ s) (RepTs.rep e ds f r)
theorem RepTs.rep (e : Same W W') : ∀ (ds : List D) {vs : List V} {as : List Addr}, (∀ a ∈ as, W' a = H a) → RepTs K W H vs ds as → Reps K W' vs ds
 | [], _, _, _, .nil => .nil
 | d :: ds, _, _, f, .cons r t => .cons (RepT.rep e d (fun a h => f a (List.mem_append_left _ h)) r) (RepTs.rep e ds (fun a h => f a (List.mem_append_right _ h)) t)
end
mutual
theorem RepT.isl : ∀ (d : D) {v : V} {as : List Addr}, RepT K W H v d as → ∀ a ∈ as, ∃ xs, H a = some (.lst xs)
 | d, _, _, .leaf r n => fun a h => absurd h List.not_mem_nil
 | .lst ds, _, _, .lst (xs := xs) s r => fun a h => (List.mem_cons.mp h).elim (fun z => ⟨xs, z ▸ s⟩) fun z => RepTs.isl ds r a z
 | .tup ds, _, _, .tup s r => RepTs.isl ds r
theorem RepTs.isl : ∀ (ds : List D) {vs : List V} {as : List Addr}, RepTs K W H vs ds as → ∀ a ∈ as, ∃ xs, H a = some (.lst xs)
 | [], _, _, .nil => fun a h => absurd h List.not_mem_nil
 | d :: ds, _, _, .cons r t => fun a h => (List.mem_append.mp h).elim (fun z => RepT.isl d r a z) fun z => RepTs.isl ds t a z
end
end
def GK.plain : GK → Bool
 | .lent _ _ => false
 | _ => true
abbrev Us := List (GK × List D)
def LAt (K : PySem.W.Frag) (W H : Hp) (le : List Addr) (us : Us) : Prop := us.length = le.length ∧ ∀ (j : Nat) (a : Addr) (k : GK) (ds : List D), le[j]? = some a → us[j]? = some (k, ds) → k.plain = true ∧ ∃ xs o, H a = some o ∧ GForm K [] a k xs o ∧ Reps K W xs ds
structure Ctx where
 H0 : Hp
 G : Hp
 hid : List Addr
 le : List Addr
def atV : V → Bool
 | .ref _ => false
 | _ => true
theorem GForm.notT {K : PySem.W.Frag} {le : List Addr} {a : Addr} {k : GK} {xs : List V} {o : HO} (h : GForm K le a k xs o) {f : Option HO → Bool} (hf : ∀ z, f z = true → ∃ ys, z = some (.tup ys)) : f (some o) = false := by
 cases e : f (some o) with
 | false => rfl
 | true =>
  obtain ⟨ys, q⟩ := hf _ e
  exact (h.atT ys (Option.some.inj q)).elim
def atT : Option HO → Bool
 | some (.tup xs) => xs.all atV
 | _ => false
theorem atT_some' {o : Option HO} (h : atT o = true) : ∃ xs, o = some (.tup xs) := by
 unfold atT at h
 split at h
 ·exact ⟨_, rfl⟩
 ·cases h
theorem atT_some {o : Option HO} (h : atT o = true) : ∃ xs, o = some (.tup xs) := by
 unfold atT at h
 split at h
 ·exact ⟨_, rfl⟩
 ·cases h
def Ctx.see (C : Ctx) : Hp := fun b => if atT (C.H0 b) = true then C.H0 b else C.G b
def vis (C : Ctx) (o : List Addr) (H : Hp) : Hp := fun b => if (C.H0 b).isSome then C.see b else if (b ∈ o ∨ b ∈ C.hid) ∧ atT (H b) = false then none else H b
theorem see_in {C : Ctx} (g : Same C.G C.H0) : Same C.see C.H0 := fun b x h => by
 unfold Ctx.see at h
 split at h
 ·exact h
 ·exact g _ _ h
theorem vis_same {C : Ctx} {o : List Addr} {H H' : Hp} (e : Same H H') : Same (vis C o H) (vis C o H') := fun b x h => by
 unfold vis at h ⊢
 split
 ·rename_i q; rw [if_pos q] at h; exact h
 ·rename_i q
  rw [if_neg q] at h
  split at h
  ·cases h
  ·rename_i z
   have h' := e _ _ h
   rw [if_neg (by rw [h'] ; rw [h] at z; exact z)]
   exact h'
theorem vis_sub {C : Ctx} {o o' : List Addr} {H : Hp} (e : ∀ b, b ∈ o' → b ∈ o) : Same (vis C o H) (vis C o' H) := fun b x h => by
 unfold vis at h ⊢
 split
 ·rename_i q; rw [if_pos q] at h; exact h
 ·rename_i q
  rw [if_neg q] at h
  split at h
  ·cases h
  ·rename_i z
   rw [if_neg fun m => z ⟨m.1.elim (fun y => .inl (e b y)) .inr, m.2⟩]
   exact h
theorem vis_in {C : Ctx} {o : List Addr} {H : Hp} (g : Same C.G C.H0) (s : Same C.H0 H) : Same (vis C o H) H := fun b x h => by
 unfold vis at h
 split at h
 ·exact s _ _ (see_in g _ _ h)
 ·split at h
  ·cases h
  ·exact h
theorem vis_at_tup {C : Ctx} {o : List Addr} {H : Hp} {a : Addr} {xs : List V} (s : Same C.H0 H) (h : H a = some (.tup xs)) (hx : xs.all atV = true) : vis C o H a = some (.tup xs) := by
 have k : atT (H a) = true := by rw [h]; exact hx
 unfold vis
 cases q : C.H0 a with
 | some y =>
  have e := s _ _ q
  rw [h] at e
  rw [if_pos (show (some y).isSome = true from rfl)]
  unfold Ctx.see
  rw [q, ← e, if_pos (show atT (some (.tup xs)) = true from hx)]
 | none =>
  rw [if_neg (by simp), if_neg (by rw [k]; simp)]
  exact h
theorem vis_at {C : Ctx} {o : List Addr} {H : Hp} {a : Addr} (n0 : C.H0 a = none) (no : a ∉ o) (nh : a ∉ C.hid) : vis C o H a = H a := by
 unfold vis
 rw [n0, if_neg (by simp), if_neg fun z => z.1.elim no nh]
theorem vis_new {C : Ctx} {o : List Addr} {H : Hp} {a : Addr} {x : HO} (n0 : C.H0 a = none) (no : a ∉ o) (nh : a ∉ C.hid) : vis C o (upd H a x) = upd (vis C o H) a x := by
 funext b
 by_cases e : b = a
 ·subst e
  rw [upd_same, vis_at n0 no nh, upd_same]
 ·rw [upd_ne e]
  unfold vis
  rw [upd_ne e]
theorem vis_own {C : Ctx} {o : List Addr} {H : Hp} {a : Addr} {x : HO} (ho : a ∈ o) (h1 : atT (H a) = false) (h2 : atT (some x) = false) : vis C o (upd H a x) = vis C o H := by
 funext b
 by_cases e : b = a
 ·subst e
  unfold vis
  rw [upd_same, if_pos (show (b ∈ o ∨ b ∈ C.hid) ∧ atT (some x) = false from ⟨Or.inl ho, h2⟩), if_pos (show (b ∈ o ∨ b ∈ C.hid) ∧ atT (H b) = false from ⟨Or.inl ho, h1⟩)]
 ·unfold vis
  rw [upd_ne e]
theorem same_upd {H : Hp} {p : Addr} {o : HO} (h : H p = none) : Same H (upd H p o) := fun b x e => by
 rw [upd_ne (ne_of_none e h)]
 exact e
def Disj (ρ : Rho) : Prop := ∀ (i j : Nat) (e e' : En) (a : Addr), ρ[i]? = some e → ρ[j]? = some e' → a ∈ e.own → a ∈ e'.own → i = j
structure SRel (K : PySem.W.Frag) (C : Ctx) (H : Hp) (σ : L2.St) (ρ : Rho) : Prop where
 len : σ.length = ρ.length
 gh : Same C.G C.H0
 hh : Same C.H0 H
 nd : Disj ρ
 fr : ∀ a, a ∈ ows ρ ∨ a ∈ C.hid → C.H0 a = none ∧ H a ≠ none
 dj : ∀ a ∈ ows ρ, a ∉ C.hid
 im : ∀ (i : Nat) (d : D), ρ[i]? = some (En.im d) → ∃ v : V, σ[i]? = some (some v) ∧ Rep K (vis C (ows ρ) H) v d
 ow : ∀ (i : Nat) (a : Addr) (ds : List D), ρ[i]? = some (En.ow a ds) → σ[i]? = some (some (V.ref a)) ∧ ∃ xs, H a = some (.lst xs) ∧ Reps K (vis C (ows ρ) H) xs ds
 od : ∀ (i : Nat) (a : Addr) (ds : List (List Key × D)), ρ[i]? = some (En.od a ds) → σ[i]? = some (some (V.ref a)) ∧ ∃ xs, H a = some (.dT xs) ∧ RepKV K (vis C (ows ρ) H) xs ds
 ot : ∀ (i : Nat) (as : List Addr) (d : D), ρ[i]? = some (En.ot as d) → ∃ v : V, σ[i]? = some (some v) ∧ RepT K (vis C (ows ρ) H) H v d as
 og : ∀ (i : Nat) (a : Addr) (k : GK) (ds : List D), ρ[i]? = some (En.og a k ds) → σ[i]? = some (some (V.ref a)) ∧ ∃ xs o, H a = some o ∧ GForm K C.le a k xs o ∧ Reps K (vis C (ows ρ) H) xs ds
section
variable {K : PySem.W.Frag} {C : Ctx} {H H' : Hp} {σ : L2.St} {ρ : Rho}
theorem SRel.same (S : SRel K C H σ ρ) (e : Same H H') : SRel K C H' σ ρ :=
 ⟨S.len, S.gh, S.hh.trans e, S.nd, fun a h => ⟨(S.fr a h).1, fun z => (S.fr a h).2 (e.free z)⟩, S.dj, fun i d h => by
  obtain ⟨v, h1, h2⟩ := S.im i d h
  exact ⟨v, h1, Rep.mono (vis_same e) _ h2⟩, fun i a ds h => by
  obtain ⟨h1, xs, h2, h3⟩ := S.ow i a ds h
  exact ⟨h1, xs, e _ _ h2, Reps.mono (vis_same e) _ h3⟩, fun i a ds h => by
  obtain ⟨h1, xs, h2, h3⟩ := S.od i a ds h
  exact ⟨h1, xs, e _ _ h2, h3.mono (vis_same e)⟩, fun i as d h => by
  obtain ⟨v, h1, h2⟩ := S.ot i as d h
  exact ⟨v, h1, RepT.mono (vis_same e) _ (fun a ha => by
   obtain ⟨xs, q⟩ := RepT.isl _ h2 a ha
   rw [q]
   exact (e _ _ q).symm) h2⟩, fun i a k ds h => by
  obtain ⟨h1, xs, o, h2, h3, h4⟩ := S.og i a k ds h
  exact ⟨h1, xs, o, e _ _ h2, h3, Reps.mono (vis_same e) _ h4⟩⟩
theorem SRel.visIn (S : SRel K C H σ ρ) : Same (vis C (ows ρ) H) H := vis_in S.gh S.hh
theorem SRel.new (S : SRel K C H σ ρ) {a : Addr} (n : H a = none) : C.H0 a = none ∧ a ∉ ows ρ ∧ a ∉ C.hid :=
 ⟨S.hh.free n, fun z => (S.fr a (.inl z)).2 n, fun z => (S.fr a (.inr z)).2 n⟩
theorem SRel.visNew (S : SRel K C H σ ρ) {a : Addr} {x : HO} (n : H a = none) : vis C (ows ρ) (upd H a x) = upd (vis C (ows ρ) H) a x :=
 let ⟨n0, no, nh⟩ := S.new n
 vis_new n0 no nh
end
def wpE (X : Cx) (e : Expr) : TE := fun σ H Q => ∀ pins s, Inv X pins σ H s → wpAny (model X.prog X.w) X.A (eval e X.env) (EP X pins σ Q) X.xe s
def wpT (X : Cx) (e : Expr) : TT := fun σ H Q => ∀ pins s, Inv X pins σ H s → wpAny (model X.prog X.w) X.A (isTrue e X.env (eval e X.env)) (TP X pins σ Q) X.xe s
def wpA (X : Cx) (es : List Expr) : TA := fun σ H Q => ∀ (pos : Pos) pins s, Inv X pins σ H s → wpAny (model X.prog X.w) X.A (spliced (backTo pos (starEach es X.env))) (AP X pins σ Q) X.xe s
section
variable {X : Cx}
theorem pe_wp {e : Expr} : PE X e (wpE X e) := ⟨fun pins s _ _ _ I h => h pins s I⟩
theorem pt_wp {e : Expr} : PT X e (wpT X e) := ⟨fun pins s _ _ _ I h => h pins s I⟩
theorem pa_wp {es : List Expr} : PA X es (wpA X es) := ⟨fun pos pins s _ _ _ I h => h pos pins s I⟩
theorem wpE_of {e : Expr} {t : TE} (h : PE X e t) {σ : L2.St} {H : Hp} {Q : VK} (q : t σ H Q) : wpE X e σ H Q := fun pins s I => h.run pins s σ H Q I q
theorem wpT_of {e : Expr} {t : TT} (h : PT X e t) {σ : L2.St} {H : Hp} {Q : Bool → Hp → Prop} (q : t σ H Q) : wpT X e σ H Q := fun pins s I => h.run pins s σ H Q I q
theorem wpA_of {es : List Expr} {t : TA} (h : PA X es t) {σ : L2.St} {H : Hp} {Q : List V → Hp → Prop} (q : t σ H Q) : wpA X es σ H Q := fun pos pins s I => h.run pos pins s σ H Q I q
end
def EE (X : Cx) (C : Ctx) (ρ : Rho) (e : Expr) (d : D) : Prop :=
 ∀ σ H, SRel X.K C H σ ρ → ∀ Q : VK, (∀ v H', Same H H' → Rep X.K (vis C (ows ρ) H') v d → Q v H') → wpE X e σ H Q
def ET (X : Cx) (C : Ctx) (ρ : Rho) (e : Expr) (c : Bool) : Prop :=
 ∀ σ H, SRel X.K C H σ ρ → ∀ Q : Bool → Hp → Prop, (∀ H', Same H H' → Q c H') → wpT X e σ H Q
def EA (X : Cx) (C : Ctx) (ρ : Rho) (es : List Expr) (ds : List D) : Prop :=
 ∀ σ H, SRel X.K C H σ ρ → ∀ Q : List V → Hp → Prop, (∀ vs H', Same H H' → Reps X.K (vis C (ows ρ) H') vs ds → Q vs H') → wpA X es σ H Q
def EF (X : Cx) (C : Ctx) (ρ : Rho) (e : Expr) (ds : List D) : Prop :=
 ∀ σ H, SRel X.K C H σ ρ → ∀ Q : VK, (∀ a xs H', H a = none → Same H H' → H' a = some (.lst xs) → Reps X.K (vis C (a :: ows ρ) H') xs ds → Q (.ref a) H') → wpE X e σ H Q
def EL (X : Cx) (C : Ctx) (ρ : Rho) (e : Expr) (ds : List D) : Prop :=
 ∀ σ H, SRel X.K C H σ ρ → ∀ Q : VK, (∀ a xs H', Same H H' → SqL X.K H' a xs → Reps X.K (vis C (ows ρ) H') xs ds → Q (.ref a) H') → wpE X e σ H Q
section
variable {X : Cx} {C : Ctx} {ρ : Rho} {e a b : Expr} {es : List Expr} {d : D} {ds : List D} {pos : Pos}
theorem EE.eq {d' : D} (h : EE X C ρ e d) (q : d = d') : EE X C ρ e d' := q ▸ h
theorem ET.eq {c c' : Bool} (h : ET X C ρ e c) (q : c = c') : ET X C ρ e c' := q ▸ h
theorem EA.eq {ds' : List D} (h : EA X C ρ es ds) (q : ds = ds') : EA X C ρ es ds' := q ▸ h
theorem EF.eq {ds' : List D} (h : EF X C ρ e ds) (q : ds = ds') : EF X C ρ e ds' := q ▸ h
theorem EL.eq {ds' : List D} (h : EL X C ρ e ds) (q : ds = ds') : EL X C ρ e ds' := q ▸ h
theorem EF.ee (h : EF X C ρ e ds) : EE X C ρ e (.lst ds) := fun σ H S Q q => h σ H S _ fun a xs H' n s l r =>
 q _ _ s (.lst (.inl (.inl (by
  obtain ⟨n0, no, nh⟩ := S.new n
  rw [vis_at n0 no nh]
  exact l))) (Reps.mono (vis_sub fun b hb => List.mem_cons_of_mem _ hb) _ r))
theorem EE.el (h : EE X C ρ e (.lst ds)) : EL X C ρ e ds := fun σ H S Q q => h σ H S _ fun v H' s r => by
 cases r with
 | lst sq rs => exact q _ _ _ s ((S.same s).visIn.seq sq) rs
theorem EF.el (h : EF X C ρ e ds) : EL X C ρ e ds := h.ee.el
theorem el_var (i : Nat) {x : Str} (hN : X.N[i]? = some x := by rfl) {a : Addr} (hr : ρ[i]? = some (.ow a ds) := by rfl) (hv : Vis X.env.scope x := by first | exact Or.inl rfl | exact Or.inr (Or.inl rfl) | exact Or.inr (Or.inr rfl))
  (hd : (x == ("__debug__" : Str)) = false := by decide) (hcd : (x == ("__classdict__" : Str)) = false := by decide) : EL X C ρ (.Name x pos) ds := fun σ H S Q q => by
 obtain ⟨h1, xs, h2, h3⟩ := S.ow i a ds hr
 exact wpE_of (pe_var hN hv hd hcd) ⟨_, h1, q a xs H (Same.refl H) (.inl (.inl h2)) h3⟩
theorem ee_var (i : Nat) {x : Str} (hN : X.N[i]? = some x := by rfl) (hr : ρ[i]? = some (.im d) := by rfl) (hv : Vis X.env.scope x := by first | exact Or.inl rfl | exact Or.inr (Or.inl rfl) | exact Or.inr (Or.inr rfl))
  (hd : (x == ("__debug__" : Str)) = false := by decide) (hcd : (x == ("__classdict__" : Str)) = false := by decide) : EE X C ρ (.Name x pos) d := fun σ H S Q q => by
 obtain ⟨v, h1, h2⟩ := S.im i d hr
 exact wpE_of (pe_var hN hv hd hcd) ⟨_, h1, q v H (Same.refl H) h2⟩
theorem ee_c {v : V} (h : PE X e (tC v)) : EE X C ρ e (.at v) := fun σ H S Q q => wpE_of h (q v H (Same.refl H) (.at v))
theorem ee_int {i j} : EE X C ρ (.Constant (.int i) j pos) (.int i) := ee_c pe_int
theorem ee_bl {i j} : EE X C ρ (.Constant (.bool i) j pos) (.bl i) := ee_c pe_bl
theorem ee_non {j} : EE X C ρ (.Constant .none j pos) .non := ee_c pe_non
theorem ee_str {i j} : EE X C ρ (.Constant (.str i) j pos) (.str i) := ee_c pe_str
theorem ee_op {op : Operator} {r : R2} {x y z : V} (ho : OpR X (binaryOp op) r) (ha : EE X C ρ a (.at x)) (hb : EE X C ρ b (.at y)) (hr : ∀ H (Q : VK), Q z H → r x y H Q) : EE X C ρ (.BinOp a op b pos) (.at z) := fun σ H S Q q => by
 refine wpE_of (pe_op ho pe_wp pe_wp) (ha σ H S _ fun v H1 s1 r1 => hb σ H1 (S.same s1) _ fun u H2 s2 r2 => ?_)
 cases r1
 cases r2
 exact hr _ _ (q z H2 (s1.trans s2) (.at z))
theorem ee_add {i j : Int} (ha : EE X C ρ a (.int i)) (hb : EE X C ρ b (.int j)) : EE X C ρ (.BinOp a .Add b pos) (.int (i + j)) := ee_op op_add ha hb fun _ _ q => ⟨i, j, rfl, rfl, q⟩
theorem ee_sub {i j : Int} (ha : EE X C ρ a (.int i)) (hb : EE X C ρ b (.int j)) : EE X C ρ (.BinOp a .Sub b pos) (.int (i - j)) := ee_op op_sub ha hb fun _ _ q => ⟨i, j, rfl, rfl, q⟩
end
end DL
namespace DL
open PySem PySem.Spec PyProof.Rows L2
structure Sz (n : Nat) (i : Int) : Prop where
 lt : i.natAbs < 2 ^ n
theorem Sz.mono {n m : Nat} {i : Int} (h : Sz n i) (l : n ≤ m) : Sz m i := ⟨Nat.lt_of_lt_of_le h.lt (Nat.pow_le_pow_right (by decide) l)⟩
theorem Sz.self (i : Int) : Sz (i.natAbs.log2 + 1) i := ⟨Nat.lt_log2_self⟩
theorem Sz.ofNat (k : Nat) : Sz (k.log2 + 1) (@OfNat.ofNat Int k _) := ⟨by
 show Int.natAbs ((k : Nat) : Int) < _
 rw [Int.natAbs_natCast]
 exact Nat.lt_log2_self⟩
theorem Sz.add {n m : Nat} {i j : Int} (h : Sz n i) (k : Sz m j) : Sz (max n m + 1) (i + j) := by
 have h1 : i.natAbs < 2 ^ max n m := (h.mono (Nat.le_max_left _ _)).lt
 have h2 : j.natAbs < 2 ^ max n m := (k.mono (Nat.le_max_right _ _)).lt
 refine ⟨?_⟩
 rw [Nat.pow_succ]
 omega
theorem Sz.neg {n : Nat} {i : Int} (h : Sz n i) : Sz n (-i) := ⟨by rw [Int.natAbs_neg]; exact h.lt⟩
theorem Sz.sub {n m : Nat} {i j : Int} (h : Sz n i) (k : Sz m j) : Sz (max n m + 1) (i - j) := by
 rw [Int.sub_eq_add_neg]
 exact h.add k.neg
theorem Sz.mul {n m : Nat} {i j : Int} (h : Sz n i) (k : Sz m j) : Sz (n + m) (i * j) := ⟨wide_lt h.lt k.lt⟩
theorem Sz.emod {m : Nat} {i j : Int} (k : Sz m j) (hj : 0 < j) : Sz m (i % j) := by
 have h0 := Int.emod_nonneg i (Int.ne_of_gt hj)
 have h1 := Int.emod_lt_of_pos i hj
 have k' := k.lt
 exact ⟨by omega⟩
theorem natAbs_ediv_le (i j : Int) (hj : 0 < j) : (i / j).natAbs ≤ i.natAbs := by
 by_cases h : 0 ≤ i
 ·have h1 := Int.ediv_le_self j h
  have h2 := Int.ediv_nonneg h (Int.le_of_lt hj)
  omega
 ·have h3 : i < 0 := Int.not_le.mp h
  have h6 : i / j < 0 := Int.ediv_neg_of_neg_of_pos h3 hj
  have e := Int.mul_ediv_add_emod i j
  have h4 := Int.emod_nonneg i (Int.ne_of_gt hj)
  have h5 := Int.emod_lt_of_pos i hj
  by_cases hc : i ≤ i / j
  ·omega
  ·exfalso
   have h9 : (j - 1) * (i / j) ≤ (j - 1) * (-1) := Int.mul_le_mul_of_nonneg_left (by omega) (by omega)
   have h10 : (j - 1) * (i / j) = j * (i / j) - i / j := by rw [Int.sub_mul, Int.one_mul]
   have h11 : (j - 1) * (-1) = 1 - j := by omega
   omega
theorem Sz.le {n : Nat} {i j : Int} (h : i.natAbs ≤ j.natAbs) (k : Sz n j) : Sz n i := ⟨Nat.lt_of_le_of_lt h k.lt⟩
theorem Sz.ediv {n : Nat} {i j : Int} (h : Sz n i) (hj : 0 < j) : Sz n (i / j) := .le (natAbs_ediv_le i j hj) h
theorem Sz.ite {n m : Nat} {c : Prop} [Decidable c] {i j : Int} (h : Sz n i) (k : Sz m j) : Sz (max n m) (if c then i else j) := by
 split
 ·exact h.mono (Nat.le_max_left _ _)
 ·exact k.mono (Nat.le_max_right _ _)
theorem Sz.nabs {n : Nat} {i : Int} (h : Sz n i) : Sz n (i.natAbs : Int) := ⟨by rw [Int.natAbs_natCast]; exact h.lt⟩
theorem Sz.zero (n : Nat) : Sz n 0 := ⟨Nat.two_pow_pos n⟩
theorem Sz.of_bits {n : Nat} {i : Int} (h : Builtin.Int.intBits i ≤ n) : Sz n i := by
 unfold Builtin.Int.intBits at h
 split at h
 ·rename_i z
  have e : i = 0 := by simpa using z
  subst e
  exact .zero n
 ·exact (Sz.self i).mono h
theorem Sz.of_lt {n : Nat} {i : Int} (m : Nat) (h : i.natAbs < m) (l : m ≤ 2 ^ n) : Sz n i := ⟨Nat.lt_of_lt_of_le h l⟩
theorem Sz.log2 {n : Nat} {i : Int} (h : Sz n i) : i.natAbs.log2 ≤ n := by
 by_cases e : i.natAbs = 0
 ·rw [e]
  have : Nat.log2 0 = 0 := by decide
  omega
 ·exact Nat.le_of_lt ((Nat.log2_lt e).mpr h.lt)
theorem intBits_le (x : Int) : Builtin.Int.intBits x ≤ x.natAbs.log2 + 1 := by
 unfold Builtin.Int.intBits
 split <;> omega
theorem Sz.ok {n m : Nat} {i j : Int} (h : Sz n i) (k : Sz m j) (l : n + m ≤ 100000000) : IntMulOk i j := by
 have h1 := intBits_le i
 have h2 := intBits_le j
 have h3 := h.log2
 have h4 := k.log2
 have e : bitsLine = 134217728 := by decide
 unfold IntMulOk
 intro z
 rw [Bool.and_eq_true] at z
 have z2 := z.2
 unfold Builtin.Int.intTooBig at z2
 have z3 := of_decide_eq_true z2
 rw [e] at z3
 omega
theorem Sz.noPylong {x y : Int} {n : Nat} (h : Sz n y) (l : n ≤ 8999) : Builtin.divisionGoesByPylong x y = false := PyProof.noPylong_of_log2 (by have := h.log2; omega)
section
variable {X : Cx} {C : Ctx} {ρ : Rho} {e a b c : Expr} {es : List Expr} {d da db : D} {ds : List D} {pos : Pos}
theorem op_mulK : OpR X (binaryOp .Mult) (rI IntMulOk fun i j => .int (i * j)) := opI fun _ _ _ _ _ _ _ hc q => mul_int q hc
theorem op_fdivK : OpR X (binaryOp .FloorDiv) (rI (fun _ j => j ≠ 0 ∧ Sz 8999 j) fun i j => .int (i.fdiv j)) := opI fun _ _ _ _ _ _ _ hc q => floordiv_int hc.1 q (.inl (hc.2.noPylong (by decide)))
theorem ee_mul {i j : Int} (ha : EE X C ρ a (.int i)) (hb : EE X C ρ b (.int j)) (h : IntMulOk i j) : EE X C ρ (.BinOp a .Mult b pos) (.int (i * j)) := ee_op op_mulK ha hb fun _ _ q => ⟨i, j, rfl, rfl, h, q⟩
theorem ee_fdivN {i j : Int} (ha : EE X C ρ a (.int i)) (hb : EE X C ρ b (.int j)) (h0 : j ≠ 0) (h : Sz 8999 j) : EE X C ρ (.BinOp a .FloorDiv b pos) (.int (i.fdiv j)) := ee_op op_fdivK ha hb fun _ _ q => ⟨i, j, rfl, rfl, ⟨h0, h⟩, q⟩
theorem ee_modN {i j : Int} (ha : EE X C ρ a (.int i)) (hb : EE X C ρ b (.int j)) (h0 : j ≠ 0) : EE X C ρ (.BinOp a .Mod b pos) (.int (i.fmod j)) := ee_op op_modN ha hb fun _ _ q => ⟨i, j, rfl, rfl, h0, q⟩
theorem ee_neg {i : Int} (ha : EE X C ρ a (.int i)) : EE X C ρ (.UnaryOp .USub a pos) (.int (-i)) := fun σ H S Q q => by
 refine wpE_of (pe_un un_neg pe_wp) (ha σ H S _ fun v H1 s1 r1 => ?_)
 cases r1
 exact ⟨i, rfl, q _ H1 s1 (.at _)⟩
theorem ee_opD {op : Operator} {r : R2} (ho : OpR X (binaryOp op) r) (ha : EE X C ρ a da) (hb : EE X C ρ b db)
  (hr : ∀ σ H v u, SRel X.K C H σ ρ → Rep X.K (vis C (ows ρ) H) v da → Rep X.K (vis C (ows ρ) H) u db → ∀ Q : VK, (∀ w H', Same H H' → Rep X.K (vis C (ows ρ) H') w d → Q w H') → r v u H Q) : EE X C ρ (.BinOp a op b pos) d := fun σ H S Q q => by
 refine wpE_of (pe_op ho pe_wp pe_wp) (ha σ H S _ fun v H1 s1 r1 => hb σ H1 (S.same s1) _ fun u H2 s2 r2 => ?_)
 exact hr σ H2 v u ((S.same s1).same s2) (Rep.mono (vis_same s2) _ r1) r2 Q fun w H' s3 r3 => q w H' ((s1.trans s2).trans s3) r3
def wpC (X : Cx) (op : CmpOp) (a b : Expr) : TE := fun σ H Q => ∀ pins s, Inv X pins σ H s →
 wpAny (model X.prog X.w) X.A (eval a X.env) (fun v s₁ => wpAny (model X.prog X.w) X.A (eval b X.env) (fun u s₂ => wpAny (model X.prog X.w) X.A (compareOp op v u) (EP X pins σ Q) X.xe s₂) X.xe s₁) X.xe s
theorem pc_wp {op : CmpOp} : PC X op a b (wpC X op a b) := ⟨fun pins s _ _ _ I h => h pins s I⟩
def EC (X : Cx) (C : Ctx) (ρ : Rho) (op : CmpOp) (a b : Expr) (z : V) : Prop :=
 ∀ σ H, SRel X.K C H σ ρ → ∀ Q : VK, (∀ H', Same H H' → Q z H') → wpC X op a b σ H Q
theorem EC.eq {op : CmpOp} {z z' : V} (h : EC X C ρ op a b z) (q : z = z') : EC X C ρ op a b z' := q ▸ h
theorem ec_opD {op : CmpOp} {r : R2} {z : V} (ho : OpR X (compareOp op) r) (ha : EE X C ρ a da) (hb : EE X C ρ b db)
  (hr : ∀ σ H v u, SRel X.K C H σ ρ → Rep X.K (vis C (ows ρ) H) v da → Rep X.K (vis C (ows ρ) H) u db → ∀ Q : VK, (∀ H', Same H H' → Q z H') → r v u H Q) : EC X C ρ op a b z := fun σ H S Q q pins s I => by
 refine binT pe_wp pe_wp I (R := fun v u H2 => r v u H2 Q) (ha σ H S _ fun v H1 s1 r1 => hb σ H1 (S.same s1) _ fun u H2 s2 r2 => ?_) fun v u s2 x y H2 I2 rx ry q2 => ho pins s2 σ H2 x y v u Q I2 rx ry q2
 exact hr σ H2 v u ((S.same s1).same s2) (Rep.mono (vis_same s2) _ r1) r2 Q fun H' s3 => q H' ((s1.trans s2).trans s3)
theorem ec_op {op : CmpOp} {r : R2} {x y z : V} (ho : OpR X (compareOp op) r) (ha : EE X C ρ a (.at x)) (hb : EE X C ρ b (.at y)) (hr : ∀ H (Q : VK), Q z H → r x y H Q) : EC X C ρ op a b z :=
 ec_opD ho ha hb fun σ H v u S r1 r2 Q q => by
  cases r1
  cases r2
  exact hr H Q (q H (Same.refl H))
theorem ee_cmp {op : CmpOp} {z : V} (h : EC X C ρ op a b z) (h1 : behindInMarks op b = false := by first | exact nobehind _ (by decide) (by decide) | rfl) : EE X C ρ (.Compare a [op] [b] pos) (.at z) := fun σ H S Q q =>
 wpE_of (pe_cmp pc_wp h1) (h σ H S _ fun H' s => q _ H' s (.at z))
theorem et_cmp {op : CmpOp} {k : Bool} (h : EC X C ρ op a b (.bl k)) (h1 : behindInMarks op b = false := by first | exact nobehind _ (by decide) (by decide) | rfl) : ET X C ρ (.Compare a [op] [b] pos) k := fun σ H S Q q =>
 wpT_of (pt_cmp pc_wp h1) (h σ H S _ fun H' s => ⟨k, rfl, q H' s⟩)
theorem ec_lt {i j : Int} (ha : EE X C ρ a (.int i)) (hb : EE X C ρ b (.int j)) : EC X C ρ .Lt a b (.bl (decide (i < j))) := ec_op op_lt ha hb fun _ _ q => ⟨i, j, rfl, rfl, q⟩
theorem ec_gt {i j : Int} (ha : EE X C ρ a (.int i)) (hb : EE X C ρ b (.int j)) : EC X C ρ .Gt a b (.bl (decide (j < i))) := ec_op op_gt ha hb fun _ _ q => ⟨i, j, rfl, rfl, q⟩
theorem ec_ge {i j : Int} (ha : EE X C ρ a (.int i)) (hb : EE X C ρ b (.int j)) : EC X C ρ .GtE a b (.bl (decide (j ≤ i))) := ec_op op_ge ha hb fun _ _ q => ⟨i, j, rfl, rfl, q⟩
theorem ec_eqI {i j : Int} (ha : EE X C ρ a (.int i)) (hb : EE X C ρ b (.int j)) : EC X C ρ .Eq a b (.bl (decide (i = j))) :=
 ec_op op_eq ha hb fun _ _ q => ⟨rfl, by rw [show decide (V.int i = V.int j) = decide (i = j) by rw [dec_int, Bool.beq_eq_decide_eq]]; exact q⟩
theorem ec_neI {i j : Int} (ha : EE X C ρ a (.int i)) (hb : EE X C ρ b (.int j)) : EC X C ρ .NotEq a b (.bl (!decide (i = j))) :=
 ec_op op_ne ha hb fun _ _ q => ⟨rfl, by rw [show decide (V.int i = V.int j) = decide (i = j) by rw [dec_int, Bool.beq_eq_decide_eq]]; exact q⟩
theorem ec_eqB {i j : Bool} (ha : EE X C ρ a (.bl i)) (hb : EE X C ρ b (.bl j)) : EC X C ρ .Eq a b (.bl (i == j)) :=
 ec_op op_eq ha hb fun _ _ q => ⟨rfl, by rw [dec_bl]; exact q⟩
theorem ec_neB {i j : Bool} (ha : EE X C ρ a (.bl i)) (hb : EE X C ρ b (.bl j)) : EC X C ρ .NotEq a b (.bl (!(i == j))) :=
 ec_op op_ne ha hb fun _ _ q => ⟨rfl, by rw [dec_bl]; exact q⟩
theorem ec_eqS {i j : Str} (ha : EE X C ρ a (.str i)) (hb : EE X C ρ b (.str j)) : EC X C ρ .Eq a b (.bl (i == j)) :=
 ec_op op_eq ha hb fun _ _ q => ⟨rfl, by rw [dec_str]; exact q⟩
theorem ec_neS {i j : Str} (ha : EE X C ρ a (.str i)) (hb : EE X C ρ b (.str j)) : EC X C ρ .NotEq a b (.bl (!(i == j))) :=
 ec_op op_ne ha hb fun _ _ q => ⟨rfl, by rw [dec_str]; exact q⟩
def D.isNon : D → Bool
 | .at .non => true
 | _ => false
theorem Rep.isNon {K : PySem.W.Frag} {H : Hp} : ∀ {v : V} {d : D}, Rep K H v d → decide (v = .non) = d.isNon
 | v, .at w, h => by
  cases h
  cases v <;> first | rfl | simp [D.isNon]
 | _, .tup _, h => by cases h; simp [D.isNon]
 | _, .lst _, h => by cases h; simp [D.isNon]
 | _, .exc _, h => by cases h; simp [D.isNon]
 | _, .obj _ _ _, h => by cases h; simp [D.isNon]
 | _, .dct, h => by cases h; simp [D.isNon]
 | _, .any, h => by cases h; simp [D.isNon]
theorem ec_isN (ha : EE X C ρ a d) {j p} : EC X C ρ .Is a (.Constant .none j p) (.bl d.isNon) :=
 ec_opD op_isN ha ee_non fun σ H v u S r1 r2 Q q => by
  cases r2
  refine ⟨rfl, ?_⟩
  rw [r1.isNon]
  exact q H (Same.refl H)
theorem ec_notN (ha : EE X C ρ a d) {j p} : EC X C ρ .IsNot a (.Constant .none j p) (.bl (!d.isNon)) :=
 ec_opD op_notN ha ee_non fun σ H v u S r1 r2 Q q => by
  cases r2
  refine ⟨rfl, ?_⟩
  rw [r1.isNon]
  exact q H (Same.refl H)
mutual
def D.py : D → PyData
 | .at .non => .none
 | .at (.bl b) => .bool b
 | .at (.int i) => .int i
 | .at (.str x) => .str x
 | .at _ => .none
 | .tup ds => .tuple (D.pys ds)
 | .lst ds => .list (D.pys ds)
 | .exc _ => .none
 | .obj _ _ _ => .none
 | .dct => .none
 | .any => .none
def D.pys : List D → List PyData
 | [] => []
 | d :: ds => D.py d :: D.pys ds
end
mutual
def D.pyOk : D → Bool
 | .at .non => true
 | .at (.bl _) => true
 | .at (.int _) => true
 | .at (.str x) => PyData.strOk x
 | .at _ => false
 | .tup ds => D.pysOk ds
 | .lst ds => D.pysOk ds
 | .exc _ => false
 | .obj _ _ _ => false
 | .dct => false
 | .any => false
def D.pysOk : List D → Bool
 | [] => true
 | d :: ds => D.pyOk d && D.pysOk ds
end
mutual
def D.dep : D → Nat
 | .tup ds => D.deps ds + 1
 | .lst ds => D.deps ds + 1
 | .at _ => 0
 | .exc _ => 0
 | .obj _ _ _ => 0
 | .dct => 0
 | .any => 0
def D.deps : List D → Nat
 | [] => 0
 | d :: ds => max (D.dep d) (D.deps ds)
end
mutual
theorem D.dp {K : PySem.W.Frag} {H : Hp} : ∀ (d : D) {v : V}, D.pyOk d = true → Rep K H v d → Dp K H v d.py
 | .at w, v, o, h => by
  cases h
  cases w with
  | non => exact .non
  | bl b => exact .bl b
  | int i => exact .int i
  | str x => exact .str x
  | byt _ => cases o
  | flt _ => cases o
  | ref _ => cases o
  | ty _ => cases o
 | .tup ds, v, o, h => by
  cases h with
  | tup s r => exact .tup (tq s) (D.dps ds o r)
 | .lst ds, v, o, h => by
  cases h with
  | lst s r => exact .lst s (D.dps ds o r)
 | .exc _, v, o, h => by cases o
 | .obj _ _ _, v, o, h => by cases o
 | .dct, v, o, h => by cases o
 | .any, v, o, h => by cases o
theorem D.dps {K : PySem.W.Frag} {H : Hp} : ∀ (ds : List D) {vs : List V}, D.pysOk ds = true → Reps K H vs ds → DpAll K H vs (D.pys ds)
 | [], _, _, h => by cases h; exact .nil
 | d :: ds, _, o, h => by
  cases h with
  | cons r rs =>
   have o' : (D.pyOk d && D.pysOk ds) = true := o
   rw [Bool.and_eq_true] at o'
   exact .cons (D.dp d o'.1 r) (D.dps ds o'.2 rs)
end
mutual
theorem D.lay : ∀ d : D, D.pyOk d = true → d.py.canLay0 = true
 | .at .non, _ => by simp [D.py, PyData.canLay0]
 | .at (.bl b), _ => by simp [D.py, PyData.canLay0]
 | .at (.int i), _ => by simp [D.py, PyData.canLay0]
 | .at (.str x), o => by
  rw [D.py, PyData.canLay0]
  exact o
 | .at (.byt _), _ => by simp [D.py, PyData.canLay0]
 | .at (.flt _), _ => by simp [D.py, PyData.canLay0]
 | .at (.ref _), _ => by simp [D.py, PyData.canLay0]
 | .at (.ty _), _ => by simp [D.py, PyData.canLay0]
 | .tup ds, o => by rw [D.py, PyData.canLay0]; exact D.lays ds o
 | .lst ds, o => by rw [D.py, PyData.canLay0]; exact D.lays ds o
 | .exc _, _ => by simp [D.py, PyData.canLay0]
 | .obj _ _ _, _ => by simp [D.py, PyData.canLay0]
 | .dct, _ => by simp [D.py, PyData.canLay0]
 | .any, _ => by simp [D.py, PyData.canLay0]
theorem D.lays : ∀ ds : List D, D.pysOk ds = true → PyData.canLayAll0 (D.pys ds) = true
 | [], _ => by simp [D.pys, PyData.canLayAll0]
 | d :: ds, o => by
  have o' : (D.pyOk d && D.pysOk ds) = true := o
  rw [Bool.and_eq_true] at o'
  rw [D.pys, PyData.canLayAll0, D.lay d o'.1, D.lays ds o'.2]
  rfl
end
mutual
theorem D.depth_py : ∀ d : D, d.py.depth = d.dep
 | .at .non => by simp [D.py, PyData.depth, D.dep]
 | .at (.bl b) => by simp [D.py, PyData.depth, D.dep]
 | .at (.int i) => by simp [D.py, PyData.depth, D.dep]
 | .at (.str x) => by simp [D.py, PyData.depth, D.dep]
 | .at (.byt _) => by simp [D.py, PyData.depth, D.dep]
 | .at (.flt _) => by simp [D.py, PyData.depth, D.dep]
 | .at (.ref _) => by simp [D.py, PyData.depth, D.dep]
 | .at (.ty _) => by simp [D.py, PyData.depth, D.dep]
 | .tup ds => by rw [D.py, PyData.depth, D.dep, D.depths_py ds]
 | .lst ds => by rw [D.py, PyData.depth, D.dep, D.depths_py ds]
 | .exc _ => by simp [D.py, PyData.depth, D.dep]
 | .obj _ _ _ => by simp [D.py, PyData.depth, D.dep]
 | .dct => by simp [D.py, PyData.depth, D.dep]
 | .any => by simp [D.py, PyData.depth, D.dep]
theorem D.depths_py : ∀ ds : List D, PyData.depthAll (D.pys ds) = D.deps ds
 | [] => by simp [D.pys, PyData.depthAll, D.deps]
 | d :: ds => by rw [D.pys, PyData.depthAll, D.deps, D.depth_py d, D.depths_py ds]
end
def D.eqb (d e : D) : Bool := PyData.eqv d.py e.py
def D.Good (d : D) : Prop := d.pyOk = true ∧ d.dep ≤ 64
theorem D.Good.shaped {d : D} (h : d.Good) : SeqAt.shaped d.py = true := by
 unfold SeqAt.shaped
 rw [D.lay _ h.1, D.depth_py, decide_eq_true h.2]
 rfl
theorem ec_eqD (hu : X.A.units + 64 < cLine) (ha : EE X C ρ a da) (hb : EE X C ρ b db) (ga : da.Good) (gb : db.Good) : EC X C ρ .Eq a b (.bl (D.eqb da db)) :=
 ec_opD (op_eqD hu) ha hb fun σ H v u S r1 r2 Q q => ⟨da.py, db.py, D.dp _ ga.1 (Rep.mono S.visIn _ r1), D.dp _ gb.1 (Rep.mono S.visIn _ r2), ga.shaped, gb.shaped, q H (Same.refl H)⟩
theorem ec_neD (hu : X.A.units + 64 < cLine) (ha : EE X C ρ a da) (hb : EE X C ρ b db) (ga : da.Good) (gb : db.Good) : EC X C ρ .NotEq a b (.bl (!D.eqb da db)) :=
 ec_opD (op_neD hu) ha hb fun σ H v u S r1 r2 Q q => ⟨da.py, db.py, D.dp _ ga.1 (Rep.mono S.visIn _ r1), D.dp _ gb.1 (Rep.mono S.visIn _ r2), ga.shaped, gb.shaped, q H (Same.refl H)⟩
theorem ec_ltT {ns ms : List Int} (hu : X.A.units < cLine) (ha : EE X C ρ a (.tup (D.ints ns))) (hb : EE X C ρ b (.tup (D.ints ms))) : EC X C ρ .Lt a b (.bl (HT.lexLt ns ms)) :=
 ec_opD (op_ltT hu) ha hb fun σ H v u S r1 r2 Q q => by
  cases r1 with
  | tup s1 t1 =>
   cases r2 with
   | tup s2 t2 =>
    have e1 := t1.ints
    have e2 := t2.ints
    subst e1 e2
    exact ⟨_, _, ns, ms, rfl, rfl, Same.seqT S.visIn (tq s1), Same.seqT S.visIn (tq s2), q H (Same.refl H)⟩
end
end DL
namespace DL
open PySem PySem.Spec PyProof.Rows L2
section
variable {X : Cx} {C : Ctx} {ρ : Rho} {e a b c : Expr} {es rest : List Expr} {d da db : D} {ds : List D} {pos : Pos} {k k' : Bool}
def wpW (X : Cx) (e : Expr) : TT := fun σ H Q => ∀ (whole : Sem Value) pins s, Inv X pins σ H s → wpAny (model X.prog X.w) X.A (isTrue e X.env whole) (TP X pins σ Q) X.xe s
theorem pw_wp : PW X e (wpW X e) := ⟨fun wh pins s _ _ _ I h => h wh pins s I⟩
theorem wpW_of {t : TT} (h : PW X e t) {σ : L2.St} {H : Hp} {Q : Bool → Hp → Prop} (q : t σ H Q) : wpW X e σ H Q := fun wh pins s I => h.run wh pins s σ H Q I q
def EW (X : Cx) (C : Ctx) (ρ : Rho) (e : Expr) (c : Bool) : Prop :=
 ∀ σ H, SRel X.K C H σ ρ → ∀ Q : Bool → Hp → Prop, (∀ H', Same H H' → Q c H') → wpW X e σ H Q
theorem EW.eq (h : EW X C ρ e k) (q : k = k') : EW X C ρ e k' := q ▸ h
theorem EW.et (h : EW X C ρ e k) : ET X C ρ e k := fun σ H S Q q => wpT_of (PW.pt pw_wp) (h σ H S Q q)
theorem ew_or1 (h : ET X C ρ a k) : EW X C ρ (.BoolOp .Or [a] pos) k := fun σ H S Q q => wpW_of (pw_or1 pt_wp) (h σ H S Q q)
theorem ew_or (h : ET X C ρ a k) (h2 : k = false → EW X C ρ (.BoolOp .Or (b :: rest) pos) k') : EW X C ρ (.BoolOp .Or (a :: b :: rest) pos) (k || k') := fun σ H S Q q => wpW_of (pw_or pt_wp pw_wp) (h σ H S _ fun H1 s1 => by
 cases k with
 | true => exact iteT (q H1 s1)
 | false => exact iteF (h2 rfl σ H1 (S.same s1) Q fun H2 s2 => q H2 (s1.trans s2)))
theorem et_not (h : ET X C ρ a k) : ET X C ρ (.UnaryOp .Not a pos) (!k) := fun σ H S Q q => wpT_of (pt_not pt_wp) (h σ H S _ fun H1 s1 => q H1 s1)
theorem et_val (h : EE X C ρ e (.bl k)) (he : ∀ whole, isTrue e X.env whole = (do let v ← whole; standAt e.pos; holding [v] (truthy v)) := by intro _; rfl) : ET X C ρ e k := fun σ H S Q q =>
 wpT_of (pt_val pe_wp he) (h σ H S _ fun v H1 s1 r1 => by
  cases r1
  exact ⟨k, rfl, q H1 s1⟩)
theorem et_lst (h : EL X C ρ e ds) (he : ∀ whole, isTrue e X.env whole = (do let v ← whole; standAt e.pos; holding [v] (truthy v)) := by intro _; rfl) : ET X C ρ e (!ds.isEmpty) := fun σ H S Q q =>
 wpT_of (pt_truth pe_wp he) (h σ H S _ fun a xs H1 s1 l r => by
  refine ⟨_, .inl ⟨xs, l, ?_⟩, q H1 s1⟩
  have e1 := r.length
  cases xs <;> cases ds <;> first | rfl | (simp at e1))
theorem ee_b1 {op} (h : EE X C ρ a d) : EE X C ρ (.BoolOp op [a] pos) d := fun σ H S Q q => wpE_of (pe_one pe_wp) (h σ H S Q q)
theorem ee_and (h : EE X C ρ a (.bl k)) (h2 : k = true → EE X C ρ (.BoolOp .And (b :: rest) pos) (.bl k')) : EE X C ρ (.BoolOp .And (a :: b :: rest) pos) (.bl (k && k')) := fun σ H S Q q => wpE_of (pe_and pe_wp pe_wp) (h σ H S _ fun v H1 s1 r1 => by
 cases r1
 refine ⟨k, rfl, ?_⟩
 cases k with
 | true => exact iteT (h2 rfl σ H1 (S.same s1) Q fun v2 H2 s2 r2 => q v2 H2 (s1.trans s2) r2)
 | false => exact iteF (q _ H1 s1 (.at _)))
theorem ec_chain {o1 o2 : CmpOp} {p1 p2 : Int → Int → Bool} {i j l : Int} (h1 : OpR X (compareOp o1) (rI0 fun i j => .bl (p1 i j))) (h2 : OpR X (compareOp o2) (rI0 fun i j => .bl (p2 i j)))
  (ha : EE X C ρ a (.int i)) (hb : EE X C ρ b (.int j)) (hc : EE X C ρ c (.int l)) (hm : lastMarks [o1, o2] [b, c] = false := by with_unfolding_all rfl) : EE X C ρ (.Compare a [o1, o2] [b, c] pos) (.bl (p1 i j && p2 j l)) := fun σ H S Q q => by
 refine wpE_of (pe_chain h1 h2 pe_wp pe_wp pe_wp hm) (ha σ H S _ fun v H1 s1 r1 => hb σ H1 (S.same s1) _ fun u H2 s2 r2 => ?_)
 cases r1
 cases r2
 refine ⟨i, j, rfl, rfl, _, rfl, ?_⟩
 cases e : p1 i j with
 | false =>
  refine iteF ?_
  rw [e] at q
  exact q _ H2 (s1.trans s2) (.at _)
 | true =>
  refine iteT (hc σ H2 ((S.same s1).same s2) _ fun w H3 s3 r3 => ?_)
  cases r3
  refine ⟨j, l, rfl, rfl, ?_⟩
  rw [e] at q
  exact q _ H3 ((s1.trans s2).trans s3) (.at _)
theorem ea_nil : EA X C ρ [] [] := fun σ H S Q q => wpA_of pa_nil (q [] H (Same.refl H) .nil)
theorem ea_cons (h : EE X C ρ e d) (hr : EA X C ρ es ds) (hs : starEach (e :: es) X.env = (false, eval e X.env) :: starEach es X.env := by rfl) : EA X C ρ (e :: es) (d :: ds) := fun σ H S Q q =>
 wpA_of (pa_cons pe_wp pa_wp hs) (h σ H S _ fun v H1 s1 r1 => hr σ H1 (S.same s1) _ fun vs H2 s2 r2 => q (v :: vs) H2 (s1.trans s2) (.cons (Rep.mono (vis_same s2) _ r1) r2))
def EAl (X : Cx) (C : Ctx) (ρ : Rho) (es : List Expr) (ds : List D) : Prop :=
 ∀ σ H, SRel X.K C H σ ρ → ∀ Q : List V → Hp → Prop, (∀ vs H', Same H H' → Reps X.K H' vs ds → Q vs H') → wpA X es σ H Q
theorem EA.al (h : EA X C ρ es ds) : EAl X C ρ es ds := fun σ H S Q q => h σ H S Q fun vs H' s r => q vs H' s (Reps.mono (S.same s).visIn _ r)
theorem eal_nil : EAl X C ρ [] [] := ea_nil.al
theorem eal_cons (h : EE X C ρ e d) (hr : EAl X C ρ es ds) (hs : starEach (e :: es) X.env = (false, eval e X.env) :: starEach es X.env := by rfl) : EAl X C ρ (e :: es) (d :: ds) := fun σ H S Q q =>
 wpA_of (pa_cons pe_wp pa_wp hs) (h σ H S _ fun v H1 s1 r1 => hr σ H1 (S.same s1) _ fun vs H2 s2 r2 => q (v :: vs) H2 (s1.trans s2) (.cons (Rep.mono s2 _ (Rep.mono (S.same s1).visIn _ r1)) r2))
theorem eal_consL {dl : List D} (h : EL X C ρ e dl) (hr : EAl X C ρ es ds) (hs : starEach (e :: es) X.env = (false, eval e X.env) :: starEach es X.env := by rfl) : EAl X C ρ (e :: es) (.lst dl :: ds) := fun σ H S Q q =>
 wpA_of (pa_cons pe_wp pa_wp hs) (h σ H S _ fun a xs H1 s1 l r1 => hr σ H1 (S.same s1) _ fun vs H2 s2 r2 => q (.ref a :: vs) H2 (s1.trans s2)
  (.cons (.lst (s2.seq l) (Reps.mono s2 _ (Reps.mono (S.same s1).visIn _ r1))) r2))
theorem ee_tup (h : EA X C ρ es ds) {x1} (hl : ds.length ≤ sizeLine := by exact Nat.le_of_ble_eq_true rfl) : EE X C ρ (.Tuple es x1 pos) (.tup ds) := fun σ H S Q q =>
 wpE_of (pe_tup pa_wp) (h σ H S _ fun vs H1 s1 r1 => ⟨by rw [r1.length]; exact hl, fun p np => by
  have S1 := S.same s1
  refine q _ _ (s1.trans (same_upd np)) ?_
  rw [S1.visNew np]
  have np' : vis C (ows ρ) H1 p = none := S1.visIn.free np
  exact .tup upd_same (Reps.mono (same_upd np') _ r1)⟩)
theorem ef_lst (h : EA X C ρ es ds) (hl : ds.length ≤ sizeLine := by exact Nat.le_of_ble_eq_true rfl) : EF X C ρ (.List es pos) ds := fun σ H S Q q =>
 wpE_of (pe_lst pa_wp) (h σ H S _ fun vs H1 s1 r1 => ⟨by rw [r1.length]; exact hl, fun p np => by
  have S1 := S.same s1
  refine q p vs _ (s1.free np) (s1.trans (same_upd np)) upd_same ?_
  refine Reps.mono ?_ _ r1
  intro z o hz
  have nz : z ≠ p := ne_of_none (S1.visIn _ _ hz) np
  have e1 : vis C (p :: ows ρ) (upd H1 p (.lst vs)) z = vis C (ows ρ) H1 z := by
   unfold vis
   rw [upd_ne nz]
   simp [nz]
  rw [e1]
  exact hz⟩)
theorem atI_reps {K : PySem.W.Frag} {H : Hp} {vs : List V} {ds : List D} {i : Int} {d : D} (r : Reps K H vs ds) (h : atI ds i = some d) : ∃ v, atI vs i = some v ∧ Rep K H v d := by
 unfold atI at h ⊢
 rw [r.length]
 cases e : ixN ds.length i with
 | none => rw [e] at h; cases h
 | some j =>
  rw [e] at h
  exact r.get h
theorem ee_ixT {i : Int} (ha : EE X C ρ a (.tup ds)) (hb : EE X C ρ b (.int i)) (h : atI ds i = some d) (hp : PlainIx b := by intro _ _; rfl) : EE X C ρ (.Subscript a b pos) d := fun σ H S Q q =>
 wpE_of (pe_ix ix_tup pe_wp pe_wp hp) (ha σ H S _ fun v H1 s1 r1 => hb σ H1 (S.same s1) _ fun u H2 s2 r2 => by
  cases r2
  cases r1 with
  | tup sq rs =>
   have S2 := (S.same s1).same s2
   obtain ⟨v, e1, e2⟩ := atI_reps rs h
   exact ⟨_, _, i, v, rfl, rfl, Same.seqT s2 (Same.seqT (S.same s1).visIn (tq sq)), e1, q v H2 (s1.trans s2) (Rep.mono (vis_same s2) _ e2)⟩)
theorem ee_ixL {i : Int} (ha : EL X C ρ a ds) (hb : EE X C ρ b (.int i)) (h : atI ds i = some d) (hp : PlainIx b := by intro _ _; rfl) : EE X C ρ (.Subscript a b pos) d := fun σ H S Q q =>
 wpE_of (pe_ix ix_list pe_wp pe_wp hp) (ha σ H S _ fun p xs H1 s1 l r1 => hb σ H1 (S.same s1) _ fun u H2 s2 r2 => by
  cases r2
  obtain ⟨v, e1, e2⟩ := atI_reps r1 h
  exact ⟨_, _, i, v, rfl, rfl, s2.seq l, e1, q v H2 (s1.trans s2) (Rep.mono (vis_same s2) _ e2)⟩)
def cutD (xs : List D) (lo hi : Option Int) : List D := (xs.drop (HT.sIx xs.length 0 lo)).take (HT.sIx xs.length xs.length hi - HT.sIx xs.length 0 lo)
theorem cut_reps {K : PySem.W.Frag} {H : Hp} {vs : List V} {ds : List D} (lo hi : Option Int) (r : Reps K H vs ds) : Reps K H (cutV vs lo hi) (cutD ds lo hi) := by
 unfold cutV cutD
 rw [r.length]
 exact Reps.take _ (Reps.drop _ r)
def wpO (X : Cx) (e : Option Expr) : TO := fun σ H Q => ∀ pins s, Inv X pins σ H s → wpAny (model X.prog X.w) X.A (evalPart e X.env) (fun u s' => ∃ o H', Inv X pins σ H' s' ∧ IsPart u o ∧ Q o H') X.xe s
theorem po_wp {e : Option Expr} : PO X e (wpO X e) := ⟨fun pins s _ _ _ I h => h pins s I⟩
def EO (X : Cx) (C : Ctx) (ρ : Rho) (e : Option Expr) (o : Option Int) : Prop :=
 ∀ σ H, SRel X.K C H σ ρ → ∀ Q : Option Int → Hp → Prop, (∀ H', Same H H' → Q o H') → wpO X e σ H Q
theorem eo_none : EO X C ρ none none := fun σ H S Q q => fun pins s I => po_none.run pins s σ H Q I (q H (Same.refl H))
theorem eo_some {i : Int} (h : EE X C ρ e (.int i)) : EO X C ρ (some e) (some i) := fun σ H S Q q => fun pins s I => (po_some pe_wp).run pins s σ H Q I (h σ H S _ fun v H1 s1 r1 => by
 cases r1
 exact ⟨i, rfl, q H1 s1⟩)
theorem ef_slice {lo hi : Option Expr} {l u : Option Int} {p2 : Pos} (ha : EL X C ρ a ds) (hl : EO X C ρ lo l) (hu : EO X C ρ hi u) : EF X C ρ (.Subscript a (.Slice lo hi none p2) pos) (cutD ds l u) := fun σ H S Q q =>
 wpE_of (pe_slice sl_list pe_wp po_wp po_wp) (ha σ H S _ fun p xs H1 s1 sq r1 => hl σ H1 (S.same s1) _ fun H2 s2 => hu σ H2 ((S.same s1).same s2) _ fun H3 s3 => ⟨p, xs, rfl, s3.seq (s2.seq sq), fun z nz => by
  have S3 := ((S.same s1).same s2).same s3
  refine q z _ _ (((s1.trans s2).trans s3).free nz) (((s1.trans s2).trans s3).trans (same_upd nz)) upd_same ?_
  refine Reps.mono ?_ _ (cut_reps l u r1)
  intro y o hy
  have hy3 := vis_same (C := C) (o := ows ρ) (s2.trans s3) _ _ hy
  have ny : y ≠ z := ne_of_none (S3.visIn _ _ hy3) nz
  have e1 : vis C (z :: ows ρ) (upd H3 z (.lst (cutV xs l u))) y = vis C (ows ρ) H3 y := by
   unfold vis
   rw [upd_ne ny]
   simp [ny]
  rw [e1]
  exact hy3⟩)
theorem ee_sliceT {lo hi : Option Expr} {l u : Option Int} {p2 : Pos} (ha : EE X C ρ a (.tup ds)) (hl : EO X C ρ lo l) (hu : EO X C ρ hi u) (hw : ¬ (HT.sIx ds.length 0 l = 0 ∧ HT.sIx ds.length ds.length u = ds.length)) :
  EE X C ρ (.Subscript a (.Slice lo hi none p2) pos) (.tup (cutD ds l u)) := fun σ H S Q q =>
 wpE_of (pe_slice sl_tup pe_wp po_wp po_wp) (ha σ H S _ fun v H1 s1 r1 => hl σ H1 (S.same s1) _ fun H2 s2 => hu σ H2 ((S.same s1).same s2) _ fun H3 s3 => by
  cases r1 with
  | tup sq rs =>
   have S3 := ((S.same s1).same s2).same s3
   refine ⟨_, _, rfl, Same.seqT s3 (Same.seqT s2 (Same.seqT (S.same s1).visIn (tq sq))), by rw [rs.length]; exact hw, fun z nz => ?_⟩
   refine q _ _ (((s1.trans s2).trans s3).trans (same_upd nz)) ?_
   rw [S3.visNew nz]
   have nz' : vis C (ows ρ) H3 z = none := S3.visIn.free nz
   exact .tup upd_same (Reps.mono (same_upd nz') _ (Reps.mono (vis_same (s2.trans s3)) _ (cut_reps l u rs))))
theorem ee_callB {id : String} {x : Str} {p : Pos} {r : List V → Hp → VK → Prop} (hc : CallR X (.builtin id) r) (ha : EAl X C ρ (e :: es) ds) (hr : ∀ σ H vs, SRel X.K C H σ ρ → Reps X.K H vs ds → ∀ Q : VK, (∀ v H', Same H H' → Rep X.K (vis C (ows ρ) H') v d → Q v H') → r vs H Q)
  (hm : X.mg x = none) (hv : bootBuiltins x = some (.builtin id) := by decide +kernel) (hg : Gl X x := by rfl) (hn : x ≠ "__name__" := by decide) (hdb : (x == ("__debug__" : Str)) = false := by decide)
  (he : starEach (e :: es) X.env = (false, eval e X.env) :: starEach es X.env := by rfl) (hpl : (backTo pos (starEach es X.env)).any (·.1) = false := by rfl) : EE X C ρ (.Call (.Name x p) (e :: es) [] pos) d := fun σ H S Q q =>
 wpE_of (pe_callB hc hg hm hv pa_wp hn hdb he hpl) (ha σ H S _ fun vs H1 s1 r1 => hr σ H1 vs (S.same s1) r1 Q fun v H2 s2 r2 => q v H2 (s1.trans s2) r2)
theorem ee_callTy {T : String} {x : Str} {p : Pos} {r : List V → Hp → VK → Prop} (hc : CallR X (.type T) r) (ha : EAl X C ρ (e :: es) ds) (hr : ∀ σ H vs, SRel X.K C H σ ρ → Reps X.K H vs ds → ∀ Q : VK, (∀ v H', Same H H' → Rep X.K (vis C (ows ρ) H') v d → Q v H') → r vs H Q)
  (hm : X.mg x = none) (hv : bootBuiltins x = some (.type T) := by decide +kernel) (hg : Gl X x := by rfl) (hn : x ≠ "__name__" := by decide) (hdb : (x == ("__debug__" : Str)) = false := by decide)
  (he : starEach (e :: es) X.env = (false, eval e X.env) :: starEach es X.env := by rfl) (hpl : (backTo pos (starEach es X.env)).any (·.1) = false := by rfl) : EE X C ρ (.Call (.Name x p) (e :: es) [] pos) d := fun σ H S Q q =>
 wpE_of (pe_callTy hc hg hm hv pa_wp hn hdb he hpl) (ha σ H S _ fun vs H1 s1 r1 => hr σ H1 vs (S.same s1) r1 Q fun v H2 s2 r2 => q v H2 (s1.trans s2) r2)
theorem ee_abs {i : Int} {p : Pos} (hm : X.mg "abs" = none) (ha : EE X C ρ e (.int i)) (hg : Gl X "abs" := by rfl) (he : starEach [e] X.env = (false, eval e X.env) :: starEach [] X.env := by rfl) : EE X C ρ (.Call (.Name "abs" p) [e] [] pos) (.int i.natAbs) :=
 ee_callB call_abs (eal_cons ha eal_nil he) (fun σ H vs S r Q q => by
  obtain ⟨v, rfl, r1⟩ := r.one
  cases r1
  refine ⟨i, rfl, ?_⟩
  rw [show (if i < 0 then -i else i) = (i.natAbs : Int) by split <;> omega]
  exact q _ H (Same.refl H) (.at _)) hm (by decide +kernel) hg (by decide) (by decide) he rfl
theorem reps2 {K : PySem.W.Frag} {H : Hp} {vs : List V} {d d' : D} (h : Reps K H vs [d, d']) : ∃ v u, vs = [v, u] ∧ Rep K H v d ∧ Rep K H u d' := by
 cases h with
 | cons r t =>
  cases t with
  | cons r' t' =>
   cases t'
   exact ⟨_, _, rfl, r, r'⟩
theorem ee_max2 {i j : Int} {p : Pos} (hm : X.mg "max" = none) (ha : EE X C ρ a (.int i)) (hb : EE X C ρ b (.int j)) (hc : X.calm = true := by rfl) (hg : Gl X "max" := by rfl) (he : starEach [a, b] X.env = (false, eval a X.env) :: starEach [b] X.env := by rfl) (he2 : starEach [b] X.env = (false, eval b X.env) :: starEach [] X.env := by rfl)
  (hpl : (backTo pos (starEach [b] X.env)).any (·.1) = false := by rfl) : EE X C ρ (.Call (.Name "max" p) [a, b] [] pos) (.int (max i j)) :=
 ee_callB (call_max2 hc) (eal_cons ha (eal_cons hb eal_nil he2) he) (fun σ H vs S r Q q => by
  obtain ⟨v, u, rfl, r1, r2⟩ := reps2 r
  cases r1
  cases r2
  refine ⟨i, j, rfl, ?_⟩
  rw [show (if j > i then j else i) = max i j by rw [Int.max_def]; split <;> split <;> omega]
  exact q _ H (Same.refl H) (.at _)) hm (by decide +kernel) hg (by decide) (by decide) he hpl
theorem ee_min2 {i j : Int} {p : Pos} (hm : X.mg "min" = none) (ha : EE X C ρ a (.int i)) (hb : EE X C ρ b (.int j)) (hc : X.calm = true := by rfl) (hg : Gl X "min" := by rfl) (he : starEach [a, b] X.env = (false, eval a X.env) :: starEach [b] X.env := by rfl) (he2 : starEach [b] X.env = (false, eval b X.env) :: starEach [] X.env := by rfl)
  (hpl : (backTo pos (starEach [b] X.env)).any (·.1) = false := by rfl) : EE X C ρ (.Call (.Name "min" p) [a, b] [] pos) (.int (min i j)) :=
 ee_callB (call_min2 hc) (eal_cons ha (eal_cons hb eal_nil he2) he) (fun σ H vs S r Q q => by
  obtain ⟨v, u, rfl, r1, r2⟩ := reps2 r
  cases r1
  cases r2
  refine ⟨i, j, rfl, ?_⟩
  rw [show (if j < i then j else i) = min i j by rw [Int.min_def]; split <;> split <;> omega]
  exact q _ H (Same.refl H) (.at _)) hm (by decide +kernel) hg (by decide) (by decide) he hpl
theorem ee_lenL {p : Pos} (hm : X.mg "len" = none) (ha : EL X C ρ e ds) (hg : Gl X "len" := by rfl) (he : starEach [e] X.env = (false, eval e X.env) :: starEach [] X.env := by rfl) : EE X C ρ (.Call (.Name "len" p) [e] [] pos) (.int ds.length) :=
 ee_callB call_len_seq (eal_consL ha eal_nil he) (fun σ H vs S r Q q => by
  obtain ⟨v, rfl, r1⟩ := r.one
  cases r1 with
  | lst sq rs =>
   refine ⟨_, _, rfl, .inl sq, ?_⟩
   rw [rs.length]
   exact q _ H (Same.refl H) (.at _)) hm PySem.boot_len hg (by decide) (by decide) he rfl
theorem ee_lenT {p : Pos} (hm : X.mg "len" = none) (ha : EE X C ρ e (.tup ds)) (hg : Gl X "len" := by rfl) (he : starEach [e] X.env = (false, eval e X.env) :: starEach [] X.env := by rfl) : EE X C ρ (.Call (.Name "len" p) [e] [] pos) (.int ds.length) :=
 ee_callB call_len_seq (eal_cons ha eal_nil he) (fun σ H vs S r Q q => by
  obtain ⟨v, rfl, r1⟩ := r.one
  cases r1 with
  | tup sq rs =>
   refine ⟨_, _, rfl, .inr (tq sq), ?_⟩
   rw [rs.length]
   exact q _ H (Same.refl H) (.at _)) hm PySem.boot_len hg (by decide) (by decide) he rfl
theorem ee_intB {p : Pos} (hm : X.mg "int" = none) (ha : EE X C ρ e (.bl k)) (hg : Gl X "int" := by rfl) (he : starEach [e] X.env = (false, eval e X.env) :: starEach [] X.env := by rfl) : EE X C ρ (.Call (.Name "int" p) [e] [] pos) (.int (if k then 1 else 0)) :=
 ee_callTy call_int1 (eal_cons ha eal_nil he) (fun σ H vs S r Q q => by
  obtain ⟨v, rfl, r1⟩ := r.one
  cases r1
  exact .inr ⟨k, rfl, q _ H (Same.refl H) (.at _)⟩) hm (by decide +kernel) hg (by decide) (by decide) he rfl
end
end DL
namespace DL
open PySem PySem.Spec PyProof.Rows L2
section
variable {X : Cx} {C : Ctx} {ρ : Rho} {e a b c : Expr} {es rest : List Expr} {d da db : D} {ds : List D} {pos : Pos} {k k' : Bool}
theorem ee_tupleL {p : Pos} (hm : X.mg "tuple" = none) (ha : EL X C ρ e ds) (hg : Gl X "tuple" := by rfl) (he : starEach [e] X.env = (false, eval e X.env) :: starEach [] X.env := by rfl) : EE X C ρ (.Call (.Name "tuple" p) [e] [] pos) (.tup ds) := fun σ H S Q q =>
 wpE_of (pe_callTy call_tuple_of hg hm (by decide +kernel) (pa_cons pe_wp pa_nil he) (by decide) (by decide) he rfl) (ha σ H S _ fun a xs H1 s1 l r1 => ⟨a, xs, rfl, .inl ⟨l, fun z nz => by
  have S1 := S.same s1
  refine q _ _ (s1.trans (same_upd nz)) ?_
  rw [S1.visNew nz]
  exact .tup upd_same (Reps.mono (same_upd (S1.visIn.free nz)) _ r1)⟩⟩)
theorem ee_tupleT {p : Pos} (hm : X.mg "tuple" = none) (ha : EE X C ρ e (.tup ds)) (hg : Gl X "tuple" := by rfl) (he : starEach [e] X.env = (false, eval e X.env) :: starEach [] X.env := by rfl) : EE X C ρ (.Call (.Name "tuple" p) [e] [] pos) (.tup ds) := fun σ H S Q q =>
 wpE_of (pe_callTy call_tuple_of hg hm (by decide +kernel) (pa_cons pe_wp pa_nil he) (by decide) (by decide) he rfl) (ha σ H S _ fun v H1 s1 r1 => by
  cases r1 with
  | tup sq rs => exact ⟨_, _, rfl, .inr ⟨Same.seqT (S.same s1).visIn (tq sq), q _ H1 s1 (.tup sq rs)⟩⟩)
theorem ee_cls {x : Str} {Cl : Addr} (hm : X.mg x = some (.ref Cl)) (hg : Gl X x := by rfl) (hd : (x == ("__debug__" : Str)) = false := by decide) : EE X C ρ (.Name x pos) (.at (.ref Cl)) := ee_c (pe_glob hg hm rfl hd)
theorem ee_ty {x : Str} {T : String} (hm : X.mg x = none) (hv : bootBuiltins x = some (.type T) := by decide +kernel) (hg : Gl X x := by rfl) (hn : x ≠ "__name__" := by decide) (hd : (x == ("__debug__" : Str)) = false := by decide) : EE X C ρ (.Name x pos) (.at (.ty T)) := ee_c (pe_bltn hg hm hv rfl hn hd)
theorem ee_gint {x : Str} {i : Int} (hm : ∃ t, X.mg x = some (.int i t)) (hg : Gl X x := by rfl) (hd : (x == ("__debug__" : Str)) = false := by decide) : EE X C ρ (.Name x pos) (.int i) := by
 obtain ⟨t, h⟩ := hm
 exact ee_c (pe_glob hg h ⟨t, rfl⟩ hd)
def D.tyN : D → Option String
 | .at .non => some "NoneType"
 | .at (.bl _) => some "bool"
 | .at (.int _) => some "int"
 | .at (.str _) => some "str"
 | .at _ => none
 | .tup _ => some "tuple"
 | .lst _ => some "list"
 | .exc _ => none
 | .obj _ _ _ => none
 | .dct => some "dict"
 | .any => none
theorem tyx_of {K : PySem.W.Frag} {H : Hp} {v : V} {d : D} {n : String} (r : Rep K H v d) (h : d.tyN = some n) : TyX K H v (.type n) := by
 cases d with
 | «at» w =>
  cases r
  cases v with
  | non => cases h; exact .base .non
  | bl b => cases h; exact .base (.bl b)
  | int b => cases h; exact .base (.int b)
  | str b => cases h; exact .base (.str b)
  | byt _ => cases h
  | flt _ => cases h
  | ref _ => cases h
  | ty _ => cases h
 | tup l =>
  cases h
  cases r with
  | tup s _ => exact .base (.tup s)
 | lst l =>
  cases h
  cases r with
  | lst s _ =>
   rcases s with (s | ⟨o, s⟩) | ⟨o, its, n, s, c, _⟩
   ·exact .base (.lst s)
   ·exact .base (.frz s)
   ·exact .kList s c
 | exc _ => cases h
 | obj _ _ _ => cases h
 | dct =>
  cases h
  cases r with
  | dct s => exact .base (.dK s)
 | any => cases h
theorem ee_isi {p : Pos} {n m : String} (r : Bool) (hm : X.mg "isinstance" = none) (ha : EAl X C ρ [a, b] [d, .at (.ty m)]) (hn : d.tyN = some n) (hr : kitB n m = some r) (hg : Gl X "isinstance" := by rfl) (he : starEach [a, b] X.env = (false, eval a X.env) :: starEach [b] X.env := by rfl)
  (hpl : (backTo pos (starEach [b] X.env)).any (·.1) = false := by rfl) : EE X C ρ (.Call (.Name "isinstance" p) [a, b] [] pos) (.bl r) :=
 ee_callB call_isi ha (fun σ H vs S rr Q q => by
  obtain ⟨v, u, rfl, r1, r2⟩ := reps2 rr
  cases r2
  exact ⟨v, _, _, _, r, rfl, .ty m, tyx_of r1 hn, kit_ty hr, q _ H (Same.refl H) (.at _)⟩) hm (by decide +kernel) hg (by decide) (by decide) he hpl
theorem ee_isiT {p : Pos} {n : String} {ms : List String} (r : Bool) {x1 : Nat} {tp : Pos} (hm : X.mg "isinstance" = none) (ha : EE X C ρ a d) (hb : EA X C ρ es (ms.map fun m => .at (.ty m))) (hn : d.tyN = some n) (hr : PySem.W.kitAny X.K (.type n) (ms.map Value.type) = some r) (hg : Gl X "isinstance" := by rfl)
  (he : starEach [a, .Tuple es x1 tp] X.env = (false, eval a X.env) :: starEach [.Tuple es x1 tp] X.env := by rfl) (he2 : starEach [.Tuple es x1 tp] X.env = (false, eval (.Tuple es x1 tp) X.env) :: starEach [] X.env := by rfl)
  (hpl : (backTo pos (starEach [.Tuple es x1 tp] X.env)).any (·.1) = false := by rfl) (hl : ms.length ≤ sizeLine := by (show _ ≤ 16777216; decide)) : EE X C ρ (.Call (.Name "isinstance" p) [a, .Tuple es x1 tp] [] pos) (.bl r) := fun σ H S Q q =>
 wpE_of (pe_callB call_isiT hg hm (by decide +kernel) (pa_cons pe_wp (pa_cons (pe_tup pa_wp) pa_nil he2) he) (by decide) (by decide) he hpl) (ha σ H S _ fun v H1 s1 r1 => hb σ H1 (S.same s1) _ fun vs H2 s2 r2 => by
  have e1 : vs = ms.map V.ty := by
   have r3 : Reps X.K (vis C (ows ρ) H2) vs ((ms.map V.ty).map D.at) := by rw [List.map_map]; exact r2
   exact r3.ats
  subst e1
  refine ⟨by rw [List.length_map]; exact hl, fun z nz => ?_⟩
  have S2 := (S.same s1).same s2
  have nn : Same H2 (upd H2 z (.tup (ms.map V.ty))) := same_upd nz
  refine ⟨v, z, ms.map V.ty, .type n, ms.map Value.type, r, rfl, upd_same, ?_, tyx_of (Rep.mono nn _ (Rep.mono s2 _ (Rep.mono (S.same s1).visIn _ r1))) hn, hr, q _ _ ((s1.trans s2).trans nn) (.at _)⟩
  clear r2 hb hr nn hl
  induction ms with
  | nil => exact .nil
  | cons m ms ih => exact .cons (.ty m) ih)
def rIsX (K : PySem.W.Frag) : List V → Hp → VK → Prop := fun xs H Q => ∃ (a Cl : Addr) (c : V) (cv : Value) (r : Bool), xs = [.ref a, c] ∧ H a = some (ExF Cl a) ∧ ExcC K Cl ∧ ClsV c cv ∧ PySem.W.kitOne K (.ref Cl) cv = some r ∧ Q (.bl r) H
theorem call_isX : CallR X (.builtin "isinstance") (rIsX X.K) := by
 intro pins s σ H xs us Q I r h
 obtain ⟨a, Cl, c, cv, b, rfl, hH, EC, hcv, e, q⟩ := h
 obtain ⟨u1, u2, rfl, r1, r2⟩ := vals2 r
 have e2 := hcv.eq r2
 subst e2
 cases (show u1 = Value.ref a from r1)
 have hx := I.hok a _ hH
 obtain ⟨⟨oe, vs, hget, hz, hv⟩, _, _⟩ := hx
 have J : PySem.W.InstAt s.heap a oe Cl none := by
  obtain ⟨oc, od, oda, osl⟩ := oe
  obtain ⟨h1, h2⟩ := hz
  dsimp only at h1 h2 hv
  subst h1 h2 hv
  exact ⟨hget, rfl, rfl, trivial⟩
 exact PySem.W.kia_one (PySem.W.handS_kitx_exc EC.hg EC.hk EC.hs EC.hd EC.ha EC.hn EC.ht EC.hm) I.kIn J e (fun z => nomatch z) fun tk => ⟨.bl b, H, I.kept (t' := tk) fun _ _ z => z, rfl, q⟩
theorem ee_isX {p : Pos} {Cl : Addr} {cv : V} {cw : Value} {r : Bool} (hm : X.mg "isinstance" = none) {n : Str} (hn : clsOf X.K n = some Cl) (E : ExcC X.K Cl) (ha : EE X C ρ a (.exc n)) (hb : EE X C ρ b (.at cv)) (hk : ClsV cv cw) (hr : PySem.W.kitOne X.K (.ref Cl) cw = some r) (hg : Gl X "isinstance" := by rfl) (he : starEach [a, b] X.env = (false, eval a X.env) :: starEach [b] X.env := by rfl)
  (he2 : starEach [b] X.env = (false, eval b X.env) :: starEach [] X.env := by rfl) (hpl : (backTo pos (starEach [b] X.env)).any (·.1) = false := by rfl) : EE X C ρ (.Call (.Name "isinstance" p) [a, b] [] pos) (.bl r) :=
 ee_callB call_isX (eal_cons ha (eal_cons hb eal_nil he2) he) (fun σ H vs S rr Q q => by
  obtain ⟨v, u, rfl, r1, r2⟩ := reps2 rr
  cases r2
  cases r1 with
  | exc hc hx =>
   rw [hn] at hc
   cases hc
   exact ⟨_, Cl, _, cw, r, rfl, hx, E, hk, hr, q _ H (Same.refl H) (.at _)⟩) hm (by decide +kernel) hg (by decide) (by decide) he hpl
inductive Ret where
 | im (d : D)
 | fr (ds : List D)
 | up (d : D) (us : Us)
inductive Res where
 | ok (r : Ret)
 | er (x : Str)
def RetR (K : PySem.W.Frag) (C : Ctx) (H : Hp) (v : V) : Ret → Prop
 | .im d => Rep K (vis C [] H) v d
 | .fr ds => ∃ a xs, v = .ref a ∧ C.H0 a = none ∧ H a = some (.lst xs) ∧ Reps K (vis C [a] H) xs ds
 | .up d us => us.length = C.le.length → Rep K (vis C C.le H) v d ∧ LAt K (vis C C.le H) H C.le us
def spF {α : Type} (K : PySem.W.Frag) (arg : α → List D) (pre : α → Prop) (res : α → Res) : Sp := fun vs H Q E => ∃ (G : Hp) (x : α), Same G H ∧ Reps K G vs (arg x) ∧ pre x ∧
 (∀ r v H', res x = .ok r → Same H H' → RetR K ⟨H, G, [], []⟩ H' v r → Q v H') ∧ (∀ n c H', res x = .er n → clsOf K n = some c → Same H H' → E (.ref c) none H')
structure Cal (P : Program) (w : World) (K : PySem.W.Frag) (mg : Str → Option Value) (base : Heap) (k : Nat) (x : Str) (ps : List Str) (sp : Sp) : Prop where
 ex : ∃ (f : Addr) (fd : FuncData) (CX : CXT), mg x = some (.ref f) ∧ PySem.W.keepIn K (.ref f) = true ∧ Binds K fd ps [] ∧ FnOk P w K mg base CX k f fd ps sp ∧ ∀ X : Cx, X.prog = P → X.w = w → Passes CX X E0
structure CalX (P : Program) (w : World) (K : PySem.W.Frag) (mg : Str → Option Value) (base : Heap) (k : Nat) (x : Str) (ps : List Str) (sp : Sp) : Prop where
 ex : ∃ (f : Addr) (fd : FuncData), mg x = some (.ref f) ∧ PySem.W.keepIn K (.ref f) = true ∧ Binds K fd ps [] ∧ FnOk P w K mg base (L2.CX P w) k f fd ps sp
theorem CalX.cal {P : Program} {w : World} {K : PySem.W.Frag} {mg : Str → Option Value} {base : Heap} {k : Nat} {x : Str} {ps : List Str} {sp : Sp} (h : CalX P w K mg base k x ps sp) : Cal P w K mg base k x ps sp := by
 obtain ⟨f, fd, h1, h2, h3, h4⟩ := h.ex
 exact ⟨f, fd, _, h1, h2, h3, h4, fun X e1 e2 => by subst e1 e2; exact passL⟩
theorem vis_callee {C : Ctx} {o l : List Addr} {H H' : Hp} (s0 : Same C.H0 H) (no : ∀ a, a ∈ o ∨ a ∈ C.hid → H a ≠ none) (hl : ∀ a ∈ l, H a = none) (s : Same H H') : Same (vis ⟨H, vis C o H, [], []⟩ l H') (vis C (l ++ o) H') := fun b x h => by
 unfold vis at h
 split at h
 ·rename_i q
  have q' : (H b).isSome = true := q
  have nl : b ∉ l := fun z => by rw [hl b z] at q'; cases q'
  by_cases ht : atT (H b) = true
  ·have h' : H b = some x := by
    have h0 : Ctx.see ⟨H, vis C o H, [], []⟩ b = some x := h
    unfold Ctx.see at h0
    rw [if_pos (show atT ((⟨H, vis C o H, [], []⟩ : Ctx).H0 b) = true from ht)] at h0
    exact h0
   obtain ⟨xs, e⟩ := atT_some ht
   rw [e] at h' ht
   cases h'
   exact vis_at_tup (s0.trans s) (s _ _ e) ht
  ·have h' : vis C o H b = some x := by
    have h0 : Ctx.see ⟨H, vis C o H, [], []⟩ b = some x := h
    unfold Ctx.see at h0
    rw [if_neg (show ¬ atT ((⟨H, vis C o H, [], []⟩ : Ctx).H0 b) = true from ht)] at h0
    exact h0
   have h2 := vis_same (C := C) (o := o) s _ _ h'
   unfold vis at h2 ⊢
   split at h2
   ·rename_i q2; rw [if_pos q2]; exact h2
   ·rename_i q2
    split at h2
    ·cases h2
    ·rename_i q3
     rw [if_neg q2, if_neg]
     ·exact h2
     ·intro z
      obtain ⟨z, zt⟩ := z
      rcases z with z | z
      ·rcases List.mem_append.mp z with z | z
       ·exact nl z
       ·exact q3 ⟨.inl z, zt⟩
      ·exact q3 ⟨.inr z, zt⟩
 ·rename_i q
  have q' : H b = none := by
   have q2 : ¬ (H b).isSome = true := q
   cases e : H b with
   | none => rfl
   | some u => rw [e] at q2; exact absurd rfl q2
  split at h
  ·cases h
  ·rename_i nl
   have n0 : C.H0 b = none := s0.free q'
   unfold vis
   rw [n0, if_neg (by simp), if_neg]
   ·exact h
   ·intro z
    obtain ⟨z, zt⟩ := z
    rcases z with z | z
    ·rcases List.mem_append.mp z with z | z
     ·exact nl ⟨.inl z, zt⟩
     ·exact no b (.inl z) q'
    ·exact no b (.inr z) q'
variable {α : Type} {arg : α → List D} {pre : α → Prop} {res : α → Res} {k : Nat} {x : Str} {ps : List Str} {p : Pos}
theorem ee_call (y : α) (F : Cal X.prog X.w X.K X.mg X.base k x ps (spF X.K arg pre res)) (hr : Room k X.A) (ha : EA X C ρ (e :: es) (arg y)) (hp : pre y) (hd : res y = .ok (.im d)) (hg : Gl X x := by rfl) (hdb : (x == ("__debug__" : Str)) = false := by decide)
  (he : starEach (e :: es) X.env = (false, eval e X.env) :: starEach es X.env := by rfl) (hpl : (backTo pos (starEach es X.env)).any (·.1) = false := by rfl) : EE X C ρ (.Call (.Name x p) (e :: es) [] pos) d := fun σ H S Q q => by
 obtain ⟨f, fd, CX, hm, hk, hb, F, hx⟩ := F.ex
 refine wpE_of (pe_call (dvs := []) F hr hg hm hk hb .nil (hx X rfl rfl) pa_wp hdb he hpl) (ha σ H S _ fun vs H1 s1 r1 => ?_)
 have S1 := S.same s1
 rw [List.append_nil]
 refine ⟨vis C (ows ρ) H1, y, S1.visIn, r1, hp, fun r v H2 hr2 s2 rr => ?_, fun n c H2 hr2 _ _ => by rw [hd] at hr2; cases hr2⟩
 rw [hd] at hr2
 cases hr2
 exact q v H2 (s1.trans s2) (Rep.mono (vis_callee (l := []) S1.hh (fun a h => (S1.fr a h).2) (fun _ z => absurd z List.not_mem_nil) s2) _ rr)
theorem ef_call (y : α) (F : Cal X.prog X.w X.K X.mg X.base k x ps (spF X.K arg pre res)) (hr : Room k X.A) (ha : EA X C ρ (e :: es) (arg y)) (hp : pre y) (hd : res y = .ok (.fr ds)) (hg : Gl X x := by rfl) (hdb : (x == ("__debug__" : Str)) = false := by decide)
  (he : starEach (e :: es) X.env = (false, eval e X.env) :: starEach es X.env := by rfl) (hpl : (backTo pos (starEach es X.env)).any (·.1) = false := by rfl) : EF X C ρ (.Call (.Name x p) (e :: es) [] pos) ds := fun σ H S Q q => by
 obtain ⟨f, fd, CX, hm, hk, hb, F, hx⟩ := F.ex
 refine wpE_of (pe_call (dvs := []) F hr hg hm hk hb .nil (hx X rfl rfl) pa_wp hdb he hpl) (ha σ H S _ fun vs H1 s1 r1 => ?_)
 have S1 := S.same s1
 rw [List.append_nil]
 refine ⟨vis C (ows ρ) H1, y, S1.visIn, r1, hp, fun r v H2 hr2 s2 rr => ?_, fun n c H2 hr2 _ _ => by rw [hd] at hr2; cases hr2⟩
 rw [hd] at hr2
 cases hr2
 obtain ⟨a, xs, rfl, n, l, rs⟩ := rr
 have n' : H1 a = none := n
 refine q a xs H2 (s1.free n') (s1.trans s2) l (Reps.mono (vis_callee (l := [a]) S1.hh (fun a h => (S1.fr a h).2) (fun b z => ?_) s2) _ rs)
 have e : b = a := by simpa using z
 rw [e]
 exact n'
end
end DL
namespace DL
open PySem PySem.Spec PyProof.Rows L2
structure Post where
 nx : Rho → Prop
 rt : Ret → Prop
 bk : Rho → Prop := fun _ => False
 ct : Rho → Prop := fun _ => False
 er : Str → Rho → Prop := fun _ _ => False
structure Lk (X : Cx) (C : Ctx) (V0 : Hp) (P : Post) (D : Ends) : Prop where
 nx : ∀ ρ σ H, P.nx ρ → SRel X.K C H σ ρ → Same V0 (vis C (ows ρ) H) → D.nx σ H
 bk : ∀ ρ σ H, P.bk ρ → SRel X.K C H σ ρ → Same V0 (vis C (ows ρ) H) → D.bk σ H
 ct : ∀ ρ σ H, P.ct ρ → SRel X.K C H σ ρ → Same V0 (vis C (ows ρ) H) → D.ct σ H
 rt : ∀ r v H, P.rt r → Same C.H0 H → RetR X.K C H v r → D.rt v H
 tk : ∃ W, Takes X W ∧ ∀ n c ρ σ H, P.er n ρ → clsOf X.K n = some c → SRel X.K C H σ ρ → Same V0 (vis C (ows ρ) H) → W (.ref c) none σ H
theorem Lk.later {X : Cx} {C : Ctx} {V0 V1 : Hp} {P : Post} {D : Ends} (L : Lk X C V0 P D) (s : Same V0 V1) : Lk X C V1 P D :=
 ⟨fun ρ σ H h S z => L.nx ρ σ H h S (s.trans z), fun ρ σ H h S z => L.bk ρ σ H h S (s.trans z), fun ρ σ H h S z => L.ct ρ σ H h S (s.trans z), L.rt, by
  obtain ⟨W, h1, h2⟩ := L.tk
  exact ⟨W, h1, fun n c ρ σ H h k S z => h2 n c ρ σ H h k S (s.trans z)⟩⟩
def wpSs (X : Cx) (st : List Stmt) : TS := fun D σ H => ∀ pins s, Inv X pins σ H s → wpAny (model X.prog X.w) X.A (execs st X.env) (SP X pins D) X.xe s
def wpS (X : Cx) (st : Stmt) : TS := fun D σ H => ∀ pins s, Inv X pins σ H s → wpAny (model X.prog X.w) X.A (exec st X.env) (SP X pins D) X.xe s
def wpG (X : Cx) (tg : Expr) : TG := fun v σ H Q => ∀ pins s u, Inv X pins σ H s → RelV v u → wpAny (model X.prog X.w) X.A (assign tg X.env u) (fun _ s' => ∃ σ' H', Inv X pins σ' H' s' ∧ Q σ' H') X.xe s
section
variable {X : Cx}
theorem pss_wp {st : List Stmt} : PSs X st (wpSs X st) := ⟨fun pins s _ _ _ I h => h pins s I⟩
theorem ps_wp {st : Stmt} : PS X st (wpS X st) := ⟨fun pins s _ _ _ I h => h pins s I⟩
theorem pg_wp {tg : Expr} : PG X tg (wpG X tg) := ⟨fun pins s _ _ _ u _ I r h => h pins s u I r⟩
theorem wpSs_of {st : List Stmt} {t : TS} (h : PSs X st t) {D : Ends} {σ : L2.St} {H : Hp} (q : t D σ H) : wpSs X st D σ H := fun pins s I => h.run pins s σ H D I q
theorem wpS_of {st : Stmt} {t : TS} (h : PS X st t) {D : Ends} {σ : L2.St} {H : Hp} (q : t D σ H) : wpS X st D σ H := fun pins s I => h.run pins s σ H D I q
theorem wpG_of {tg : Expr} {t : TG} (h : PG X tg t) {v : V} {σ : L2.St} {H : Hp} {Q : L2.St → Hp → Prop} (q : t v σ H Q) : wpG X tg v σ H Q := fun pins s u I r => h.run pins s σ H v u Q I r q
end
def WP (X : Cx) (C : Ctx) (ρ : Rho) (st : List Stmt) (P : Post) : Prop := ∀ σ H D, SRel X.K C H σ ρ → Lk X C (vis C (ows ρ) H) P D → wpSs X st D σ H
def WS (X : Cx) (C : Ctx) (ρ : Rho) (st : Stmt) (P : Post) : Prop := ∀ σ H D, SRel X.K C H σ ρ → Lk X C (vis C (ows ρ) H) P D → wpS X st D σ H
theorem ows_set_sub {i : Nat} {x : En} {ρ : Rho} {b : Addr} (h : b ∈ ows (ρ.set i x)) : b ∈ ows ρ ∨ b ∈ x.own := by
 unfold ows at h ⊢
 obtain ⟨e, he, q⟩ := List.mem_flatMap.mp h
 rcases List.mem_or_eq_of_mem_set he with z | z
 ·exact .inl (List.mem_flatMap.mpr ⟨e, z, q⟩)
 ·subst z; exact .inr q
theorem mem_owsL {ρ : Rho} {a : Addr} {i : Nat} {e : En} (h : ρ[i]? = some e) (q : a ∈ e.own) : a ∈ ows ρ := List.mem_flatMap.mpr ⟨e, List.mem_of_getElem? h, q⟩
theorem mem_ows {ρ : Rho} {a : Addr} {i : Nat} {e : En} (h : ρ[i]? = some e) (q : e.own = [a]) : a ∈ ows ρ := mem_owsL h (by rw [q]; exact List.mem_singleton_self a)
def ownAt (ρ : Rho) (i : Nat) : List Addr := match ρ[i]? with
 | some e => e.own
 | none => []
theorem ownAt_of {ρ : Rho} {i : Nat} {e : En} (h : ρ[i]? = some e) : ownAt ρ i = e.own := by unfold ownAt; rw [h]
theorem ows_split : ∀ (ρ : Rho) (i : Nat) (x : En), i < ρ.length → ∃ l r : List Addr, ows ρ = l ++ ownAt ρ i ++ r ∧ ows (ρ.set i x) = l ++ x.own ++ r
 | [], i, x, h => by simp at h
 | e :: ρ, 0, x, _ => ⟨[], ows ρ, by show List.flatMap En.own (e :: ρ) = _; rw [List.flatMap_cons]; rfl, by show List.flatMap En.own (x :: ρ) = _; rw [List.flatMap_cons]; rfl⟩
 | e :: ρ, i + 1, x, h => by
  obtain ⟨l, r, h1, h2⟩ := ows_split ρ i x (by simpa using h)
  refine ⟨e.own ++ l, r, ?_, ?_⟩
  ·show List.flatMap En.own (e :: ρ) = _
   rw [List.flatMap_cons]
   show e.own ++ ows ρ = _
   rw [h1]
   show _ = e.own ++ l ++ ownAt ρ i ++ r
   simp only [List.append_assoc]
  ·show List.flatMap En.own (e :: ρ.set i x) = _
   rw [List.flatMap_cons]
   show e.own ++ ows (ρ.set i x) = _
   rw [h2]
   simp only [List.append_assoc]
theorem set_oob {ρ : Rho} {i : Nat} {x : En} (h : ¬ i < ρ.length) : ρ.set i x = ρ := List.set_eq_of_length_le (by omega)
theorem set_oobS {σ : L2.St} {i : Nat} {x : Option V} (h : ¬ i < σ.length) : σ.set i x = σ := List.set_eq_of_length_le (by omega)
theorem own_inj {ρ : Rho} {i j : Nat} {e e' : En} {a : Addr} (nd : Disj ρ) (h1 : ρ[i]? = some e) (h2 : ρ[j]? = some e') (o1 : a ∈ e.own) (o2 : a ∈ e'.own) : i = j := nd _ _ _ _ _ h1 h2 o1 o2
theorem ows_at {ρ : Rho} {a : Addr} (h : a ∈ ows ρ) : ∃ (j : Nat) (e : En), ρ[j]? = some e ∧ a ∈ e.own := by
 unfold ows at h
 obtain ⟨e, he, q⟩ := List.mem_flatMap.mp h
 obtain ⟨j, hj, z⟩ := List.getElem_of_mem he
 exact ⟨j, e, by rw [List.getElem?_eq_getElem hj, z], q⟩
theorem own_out {ρ : Rho} {i : Nat} {e x : En} {a : Addr} (nd : Disj ρ) (h : ρ[i]? = some e) (ha : a ∈ e.own) (hx : a ∉ x.own) : a ∉ ows (ρ.set i x) := fun z => by
 obtain ⟨j, e', h1, h2⟩ := ows_at z
 have hi : i < ρ.length := (List.getElem?_eq_some_iff.mp h).1
 by_cases hj : j = i
 ·subst hj
  rw [List.getElem?_set_self hi] at h1
  cases h1
  exact hx h2
 ·rw [List.getElem?_set_ne (Ne.symm hj)] at h1
  exact hj (nd _ _ _ _ _ h1 h h2 ha)
theorem owns_nodup {ρ : Rho} {i : Nat} {x : En} (nd : Disj ρ) (hx : ∀ a ∈ x.own, a ∈ ows ρ → a ∈ ownAt ρ i) : Disj (ρ.set i x) := by
 by_cases hi : i < ρ.length
 ·have one : ∀ (k : Nat) (e' : En) (a : Addr), k ≠ i → ρ[k]? = some e' → a ∈ x.own → a ∈ e'.own → False := fun k e' a hk h o1 o2 => by
   have h2 := hx a o1 (mem_owsL h o2)
   unfold ownAt at h2
   split at h2
   ·rename_i e0 q
    exact hk (nd _ _ _ _ _ h q o2 h2)
   ·cases h2
  intro j k e e' a h1 h2 o1 o2
  by_cases hj : j = i
  ·by_cases hk : k = i
   ·rw [hj, hk]
   ·rw [hj, List.getElem?_set_self hi] at h1
    cases h1
    rw [List.getElem?_set_ne (Ne.symm hk)] at h2
    exact (one k e' a hk h2 o1 o2).elim
  ·rw [List.getElem?_set_ne (Ne.symm hj)] at h1
   by_cases hk : k = i
   ·rw [hk, List.getElem?_set_self hi] at h2
    cases h2
    exact (one j e a hj h1 o2 o1).elim
   ·rw [List.getElem?_set_ne (Ne.symm hk)] at h2
    exact nd _ _ _ _ _ h1 h2 o1 o2
 ·rw [set_oob hi]
  exact nd
section
variable {K : PySem.W.Frag} {C : Ctx} {H H' : Hp} {σ : L2.St} {ρ : Rho}
theorem SRel.setIm (S : SRel K C H σ ρ) (i : Nat) {v : V} {d : D} (r : Rep K (vis C (ows ρ) H) v d) : SRel K C H (σ.set i (some v)) (ρ.set i (.im d)) ∧ Same (vis C (ows ρ) H) (vis C (ows (ρ.set i (.im d))) H) := by
 have sub : ∀ b, b ∈ ows (ρ.set i (.im d)) → b ∈ ows ρ := fun b hb => (ows_set_sub hb).elim id fun z => absurd z List.not_mem_nil
 have sm : Same (vis C (ows ρ) H) (vis C (ows (ρ.set i (.im d))) H) := vis_sub sub
 by_cases hi : i < ρ.length
 ·have hiσ : i < σ.length := by rw [S.len]; exact hi
  refine ⟨⟨by simpa using S.len, S.gh, S.hh, ?_, fun a h => S.fr a (h.imp_left (sub a)), fun a h => S.dj a (sub a h), fun j d' h => ?_, fun j a ds h => ?_, fun j a ds h => ?_, fun j as t h => ?_, fun j a k ds h => ?_⟩, sm⟩
  ·exact owns_nodup S.nd fun a h => absurd h List.not_mem_nil
  ·by_cases hj : j = i
   ·subst hj
    rw [List.getElem?_set_self hi] at h
    cases h
    exact ⟨v, List.getElem?_set_self hiσ, Rep.mono sm _ r⟩
   ·rw [List.getElem?_set_ne (Ne.symm hj)] at h ⊢
    obtain ⟨v', h1, h2⟩ := S.im j d' h
    exact ⟨v', h1, Rep.mono sm _ h2⟩
  ·have hj : j ≠ i := fun z => by subst z; rw [List.getElem?_set_self hi] at h; cases h
   rw [List.getElem?_set_ne (Ne.symm hj)] at h ⊢
   obtain ⟨h1, xs, h2, h3⟩ := S.ow j a ds h
   exact ⟨h1, xs, h2, Reps.mono sm _ h3⟩
  ·have hj : j ≠ i := fun z => by subst z; rw [List.getElem?_set_self hi] at h; cases h
   rw [List.getElem?_set_ne (Ne.symm hj)] at h ⊢
   obtain ⟨h1, xs, h2, h3⟩ := S.od j a ds h
   exact ⟨h1, xs, h2, h3.mono sm⟩
  ·have hj : j ≠ i := fun z => by subst z; rw [List.getElem?_set_self hi] at h; cases h
   rw [List.getElem?_set_ne (Ne.symm hj)] at h ⊢
   obtain ⟨v', h1, h2⟩ := S.ot j as t h
   exact ⟨v', h1, RepT.mono sm _ (fun _ _ => rfl) h2⟩
  ·have hj : j ≠ i := fun z => by subst z; rw [List.getElem?_set_self hi] at h; cases h
   rw [List.getElem?_set_ne (Ne.symm hj)] at h ⊢
   obtain ⟨h1, xs, o, h2, h3, h4⟩ := S.og j a k ds h
   exact ⟨h1, xs, o, h2, h3, Reps.mono sm _ h4⟩
 ·rw [set_oob hi, set_oobS (by rw [S.len]; exact hi)]
  exact ⟨S, Same.refl _⟩
theorem SRel.setNo (S : SRel K C H σ ρ) (i : Nat) (x : Option V) : SRel K C H (σ.set i x) (ρ.set i .no) ∧ Same (vis C (ows ρ) H) (vis C (ows (ρ.set i .no)) H) := by
 have sub : ∀ b, b ∈ ows (ρ.set i .no) → b ∈ ows ρ := fun b hb => (ows_set_sub hb).elim id fun z => absurd z List.not_mem_nil
 have sm : Same (vis C (ows ρ) H) (vis C (ows (ρ.set i .no)) H) := vis_sub sub
 by_cases hi : i < ρ.length
 ·refine ⟨⟨by simpa using S.len, S.gh, S.hh, ?_, fun a h => S.fr a (h.imp_left (sub a)), fun a h => S.dj a (sub a h), fun j d' h => ?_, fun j a ds h => ?_, fun j a ds h => ?_, fun j as t h => ?_, fun j a k ds h => ?_⟩, sm⟩
  ·exact owns_nodup S.nd fun a h => absurd h List.not_mem_nil
  ·have hj : j ≠ i := fun z => by subst z; rw [List.getElem?_set_self hi] at h; cases h
   rw [List.getElem?_set_ne (Ne.symm hj)] at h ⊢
   obtain ⟨v', h1, h2⟩ := S.im j d' h
   exact ⟨v', h1, Rep.mono sm _ h2⟩
  ·have hj : j ≠ i := fun z => by subst z; rw [List.getElem?_set_self hi] at h; cases h
   rw [List.getElem?_set_ne (Ne.symm hj)] at h ⊢
   obtain ⟨h1, xs, h2, h3⟩ := S.ow j a ds h
   exact ⟨h1, xs, h2, Reps.mono sm _ h3⟩
  ·have hj : j ≠ i := fun z => by subst z; rw [List.getElem?_set_self hi] at h; cases h
   rw [List.getElem?_set_ne (Ne.symm hj)] at h ⊢
   obtain ⟨h1, xs, h2, h3⟩ := S.od j a ds h
   exact ⟨h1, xs, h2, h3.mono sm⟩
  ·have hj : j ≠ i := fun z => by subst z; rw [List.getElem?_set_self hi] at h; cases h
   rw [List.getElem?_set_ne (Ne.symm hj)] at h ⊢
   obtain ⟨v', h1, h2⟩ := S.ot j as t h
   exact ⟨v', h1, RepT.mono sm _ (fun _ _ => rfl) h2⟩
  ·have hj : j ≠ i := fun z => by subst z; rw [List.getElem?_set_self hi] at h; cases h
   rw [List.getElem?_set_ne (Ne.symm hj)] at h ⊢
   obtain ⟨h1, xs, o, h2, h3, h4⟩ := S.og j a k ds h
   exact ⟨h1, xs, o, h2, h3, Reps.mono sm _ h4⟩
 ·rw [set_oob hi, set_oobS (by rw [S.len]; exact hi)]
  exact ⟨S, Same.refl _⟩
theorem vis_new_same {C : Ctx} {o : List Addr} {H H' : Hp} {a : Addr} (i : Same (vis C o H) H) (n : H a = none) (s : Same H H') : Same (vis C o H) (vis C (a :: o) H') := fun y u hy => by
 have ny : y ≠ a := ne_of_none (i _ _ hy) n
 have h2 := vis_same (C := C) (o := o) s _ _ hy
 unfold vis at h2 ⊢
 simp only [List.mem_cons, ny, false_or]
 exact h2
theorem SRel.setOwns (S : SRel K C H σ ρ) (i : Nat) (hi : i < ρ.length) {v : V} {x : En} (n : ∀ a ∈ x.own, H a = none) (s : Same H H') (there : ∀ a ∈ x.own, H' a ≠ none)
  (hw : ∀ a ds, x = .ow a ds → v = .ref a ∧ ∃ xs, H' a = some (.lst xs) ∧ Reps K (vis C (x.own ++ ows ρ) H') xs ds) (hd : ∀ a ds, x = .od a ds → v = .ref a ∧ ∃ xs, H' a = some (.dT xs) ∧ RepKV K (vis C (x.own ++ ows ρ) H') xs ds) (ht : ∀ as d, x = .ot as d → RepT K (vis C (x.own ++ ows ρ) H') H' v d as) (him : ∀ d, x ≠ .im d) (hog : ∀ a k ds, x = .og a k ds → v = .ref a ∧ ∃ xs o, H' a = some o ∧ GForm K C.le a k xs o ∧ Reps K (vis C (x.own ++ ows ρ) H') xs ds := by intro _ _ _ z; cases z) :
  SRel K C H' (σ.set i (some v)) (ρ.set i x) ∧ Same (vis C (ows ρ) H) (vis C (ows (ρ.set i x)) H') := by
 have hiσ : i < σ.length := by rw [S.len]; exact hi
 have sub : ∀ b, b ∈ ows (ρ.set i x) → b ∈ x.own ++ ows ρ := fun b hb => (ows_set_sub hb).elim (fun z => List.mem_append_right _ z) fun z => List.mem_append_left _ z
 have sm1 : Same (vis C (x.own ++ ows ρ) H') (vis C (ows (ρ.set i x)) H') := vis_sub sub
 have sm0 : Same (vis C (ows ρ) H) (vis C (x.own ++ ows ρ) H') := fun y u hy => by
  have ny : y ∉ x.own := fun z => by
   have e := S.visIn _ _ hy
   rw [n y z] at e
   cases e
  have h2 := vis_same (C := C) (o := ows ρ) s _ _ hy
  unfold vis at h2 ⊢
  simp only [List.mem_append, ny, false_or]
  exact h2
 have sm := sm0.trans sm1
 have old : ∀ {j : Nat} {e : En}, j ≠ i → ρ[j]? = some e → ∀ a ∈ e.own, H a = H' a := fun {j e} hj h a ha => by
  have k := (S.fr a (.inl (mem_owsL h ha))).2
  cases q : H a with
  | none => exact (k q).elim
  | some o => exact (s _ _ q).symm
 refine ⟨⟨by simpa using S.len, S.gh, S.hh.trans s, ?_, fun b h => ?_, fun b h => ?_, fun j d' h => ?_, fun j b ds h => ?_, fun j b ds h => ?_, fun j as t h => ?_, fun j b k ds h => ?_⟩, sm⟩
 ·exact owns_nodup S.nd fun a ha h => ((S.fr a (.inl h)).2 (n a ha)).elim
 ·rcases h with h | h
  ·rcases List.mem_append.mp (sub b h) with z | z
   ·exact ⟨(S.new (n b z)).1, there b z⟩
   ·exact ⟨(S.fr b (.inl z)).1, fun q => (S.fr b (.inl z)).2 (s.free q)⟩
  ·exact ⟨(S.fr b (.inr h)).1, fun q => (S.fr b (.inr h)).2 (s.free q)⟩
 ·rcases List.mem_append.mp (sub b h) with z | z
  ·exact (S.new (n b z)).2.2
  ·exact S.dj b z
 ·have hj : j ≠ i := fun z => by
   subst z
   rw [List.getElem?_set_self hi] at h
   exact him d' (Option.some.inj h)
  rw [List.getElem?_set_ne (Ne.symm hj)] at h ⊢
  obtain ⟨v', h1, h2⟩ := S.im j d' h
  exact ⟨v', h1, Rep.mono sm _ h2⟩
 ·by_cases hj : j = i
  ·subst hj
   rw [List.getElem?_set_self hi] at h
   have e := Option.some.inj h
   obtain ⟨ev, xs, h1, h2⟩ := hw b ds e
   rw [ev]
   exact ⟨List.getElem?_set_self hiσ, xs, h1, Reps.mono sm1 _ h2⟩
  ·rw [List.getElem?_set_ne (Ne.symm hj)] at h ⊢
   obtain ⟨h1, xs, h2, h3⟩ := S.ow j b ds h
   exact ⟨h1, xs, s _ _ h2, Reps.mono sm _ h3⟩
 ·by_cases hj : j = i
  ·subst hj
   rw [List.getElem?_set_self hi] at h
   have e := Option.some.inj h
   obtain ⟨ev, xs, h1, h2⟩ := hd b ds e
   rw [ev]
   exact ⟨List.getElem?_set_self hiσ, xs, h1, h2.mono sm1⟩
  ·rw [List.getElem?_set_ne (Ne.symm hj)] at h ⊢
   obtain ⟨h1, xs, h2, h3⟩ := S.od j b ds h
   exact ⟨h1, xs, s _ _ h2, h3.mono sm⟩
 ·by_cases hj : j = i
  ·subst hj
   rw [List.getElem?_set_self hi] at h
   have e := Option.some.inj h
   exact ⟨v, List.getElem?_set_self hiσ, RepT.mono sm1 _ (fun _ _ => rfl) (ht as t e)⟩
  ·rw [List.getElem?_set_ne (Ne.symm hj)] at h ⊢
   obtain ⟨v', h1, h2⟩ := S.ot j as t h
   exact ⟨v', h1, RepT.mono sm _ (old hj h) h2⟩
 ·by_cases hj : j = i
  ·subst hj
   rw [List.getElem?_set_self hi] at h
   have e := Option.some.inj h
   obtain ⟨ev, xs, o, h1, h2, h3⟩ := hog b k ds e
   rw [ev]
   exact ⟨List.getElem?_set_self hiσ, xs, o, h1, h2, Reps.mono sm1 _ h3⟩
  ·rw [List.getElem?_set_ne (Ne.symm hj)] at h ⊢
   obtain ⟨h1, xs, o, h2, h3, h4⟩ := S.og j b k ds h
   exact ⟨h1, xs, o, s _ _ h2, h3, Reps.mono sm _ h4⟩
theorem SRel.setOwn (S : SRel K C H σ ρ) (i : Nat) (hi : i < ρ.length) {a : Addr} {x : En} (hx : x.own = [a]) (n : H a = none) (s : Same H H') (there : H' a ≠ none)
  (hw : ∀ ds, x = .ow a ds → ∃ xs, H' a = some (.lst xs) ∧ Reps K (vis C (a :: ows ρ) H') xs ds) (hd : ∀ ds, x = .od a ds → ∃ xs, H' a = some (.dT xs) ∧ RepKV K (vis C (a :: ows ρ) H') xs ds) (him : ∀ d, x ≠ .im d) (hot : ∀ as d, x ≠ .ot as d := by intro _ _ z; cases z) (hog : ∀ k ds, x = .og a k ds → ∃ xs o, H' a = some o ∧ GForm K C.le a k xs o ∧ Reps K (vis C (a :: ows ρ) H') xs ds := by intro _ _ z; cases z) :
  SRel K C H' (σ.set i (some (.ref a))) (ρ.set i x) ∧ Same (vis C (ows ρ) H) (vis C (ows (ρ.set i x)) H') :=
 S.setOwns i hi (fun b hb => by rw [hx, List.mem_singleton] at hb; rw [hb]; exact n) s (fun b hb => by rw [hx, List.mem_singleton] at hb; rw [hb]; exact there)
  (fun b ds e => by
   have eb : a = b := by rw [e] at hx; exact (List.cons.inj hx).1.symm
   subst eb
   rw [hx]
   exact ⟨rfl, hw ds e⟩) (fun b ds e => by
   have eb : a = b := by rw [e] at hx; exact (List.cons.inj hx).1.symm
   subst eb
   rw [hx]
   exact ⟨rfl, hd ds e⟩) (fun as d e => (hot as d e).elim) him (fun b k ds e => by
   have eb : a = b := by rw [e] at hx; exact (List.cons.inj hx).1.symm
   subst eb
   rw [hx]
   exact ⟨rfl, hog k ds e⟩)
theorem SRel.setOw (S : SRel K C H σ ρ) (i : Nat) (hi : i < ρ.length) {a : Addr} {xs : List V} {ds : List D} (n : H a = none) (s : Same H H') (l : H' a = some (.lst xs)) (r : Reps K (vis C (a :: ows ρ) H') xs ds) :
  SRel K C H' (σ.set i (some (.ref a))) (ρ.set i (.ow a ds)) ∧ Same (vis C (ows ρ) H) (vis C (ows (ρ.set i (.ow a ds))) H') :=
 S.setOwn i hi rfl n s (by rw [l]; intro z; cases z) (fun ds' e => by cases e; exact ⟨xs, l, r⟩) (fun _ e => by cases e) (fun _ e => by cases e) fun _ _ e => by cases e
theorem SRel.updOwns (S : SRel K C H σ ρ) (i : Nat) {a : Addr} {e x : En} {o : HO} {v : V} (h : ρ[i]? = some e) (he : x.own = e.own) (ma' : a ∈ e.own) (hσ : σ[i]? = some (some v)) (a1 : atT (H a) = false) (a2 : atT (some o) = false)
  (hw : ∀ b ds, x = .ow b ds → v = .ref b ∧ ∃ xs, upd H a o b = some (.lst xs) ∧ Reps K (vis C (ows ρ) H) xs ds) (hd : ∀ b ds, x = .od b ds → v = .ref b ∧ ∃ xs, upd H a o b = some (.dT xs) ∧ RepKV K (vis C (ows ρ) H) xs ds) (ht : ∀ as d, x = .ot as d → RepT K (vis C (ows ρ) H) (upd H a o) v d as) (him : ∀ d, x ≠ .im d) (hog : ∀ b k ds, x = .og b k ds → v = .ref b ∧ ∃ xs o', upd H a o b = some o' ∧ GForm K C.le b k xs o' ∧ Reps K (vis C (ows ρ) H) xs ds := by intro _ _ _ z; cases z) :
  SRel K C (upd H a o) σ (ρ.set i x) ∧ Same (vis C (ows ρ) H) (vis C (ows (ρ.set i x)) (upd H a o)) := by
 have hi : i < ρ.length := (List.getElem?_eq_some_iff.mp h).1
 have ma : a ∈ ows ρ := mem_owsL h ma'
 have eo : ows (ρ.set i x) = ows ρ := by
  obtain ⟨l, r', h1, h2⟩ := ows_split ρ i x hi
  rw [h1, h2, ownAt_of h, he]
 have ev : vis C (ows (ρ.set i x)) (upd H a o) = vis C (ows ρ) H := by rw [eo, vis_own ma a1 a2]
 obtain ⟨n0, na⟩ := S.fr a (.inl ma)
 have nj : ∀ (j : Nat) (e' : En) (b : Addr), j ≠ i → ρ[j]? = some e' → b ∈ e'.own → b ≠ a := fun j e' b hj h' o' z => by
  subst z
  exact hj (own_inj S.nd h' h o' ma')
 refine ⟨⟨by simpa using S.len, S.gh, fun b u q => ?_, owns_nodup S.nd (fun b hb _ => by rw [ownAt_of h, ← he]; exact hb), fun b q => ?_, by rw [eo]; exact S.dj, fun j d' q => ?_, fun j b ds q => ?_, fun j b ds q => ?_, fun j as t q => ?_, fun j b k ds q => ?_⟩, by rw [ev]; exact Same.refl _⟩
 ·have nb : b ≠ a := fun z => by rw [z, n0] at q; cases q
  rw [upd_ne nb]
  exact S.hh _ _ q
 ·rw [eo] at q
  refine ⟨(S.fr b q).1, ?_⟩
  by_cases z : b = a
  ·rw [z, upd_same]; intro y; cases y
  ·rw [upd_ne z]; exact (S.fr b q).2
 ·rw [ev]
  have hj : j ≠ i := fun z => by
   subst z
   rw [List.getElem?_set_self hi] at q
   exact him d' (Option.some.inj q)
  rw [List.getElem?_set_ne (Ne.symm hj)] at q
  exact S.im j d' q
 ·rw [ev]
  by_cases hj : j = i
  ·subst hj
   rw [List.getElem?_set_self hi] at q
   obtain ⟨e2, xs, e3, h2⟩ := hw b ds (Option.some.inj q)
   rw [hσ, e2]
   exact ⟨rfl, xs, e3, h2⟩
  ·rw [List.getElem?_set_ne (Ne.symm hj)] at q
   obtain ⟨h1, xs, h2, h3⟩ := S.ow j b ds q
   exact ⟨h1, xs, by rw [upd_ne (nj j _ b hj q (List.mem_singleton_self b))]; exact h2, h3⟩
 ·rw [ev]
  by_cases hj : j = i
  ·subst hj
   rw [List.getElem?_set_self hi] at q
   obtain ⟨e2, xs, e3, h2⟩ := hd b ds (Option.some.inj q)
   rw [hσ, e2]
   exact ⟨rfl, xs, e3, h2⟩
  ·rw [List.getElem?_set_ne (Ne.symm hj)] at q
   obtain ⟨h1, xs, h2, h3⟩ := S.od j b ds q
   exact ⟨h1, xs, by rw [upd_ne (nj j _ b hj q (List.mem_singleton_self b))]; exact h2, h3⟩
 ·rw [ev]
  by_cases hj : j = i
  ·subst hj
   rw [List.getElem?_set_self hi] at q
   exact ⟨v, hσ, ht as t (Option.some.inj q)⟩
  ·rw [List.getElem?_set_ne (Ne.symm hj)] at q
   obtain ⟨v', h1, h2⟩ := S.ot j as t q
   exact ⟨v', h1, RepT.mono (Same.refl _) _ (fun b hb => by rw [upd_ne (nj j _ b hj q hb)]) h2⟩
 ·rw [ev]
  by_cases hj : j = i
  ·subst hj
   rw [List.getElem?_set_self hi] at q
   obtain ⟨e2, xs, o', e3, h2, h3⟩ := hog b k ds (Option.some.inj q)
   rw [hσ, e2]
   exact ⟨rfl, xs, o', e3, h2, h3⟩
  ·rw [List.getElem?_set_ne (Ne.symm hj)] at q
   obtain ⟨h1, xs, o', h2, h3, h4⟩ := S.og j b k ds q
   exact ⟨h1, xs, o', by rw [upd_ne (nj j _ b hj q (List.mem_singleton_self b))]; exact h2, h3, h4⟩
theorem SRel.updOwn (S : SRel K C H σ ρ) (i : Nat) {a : Addr} {e x : En} {o : HO} (h : ρ[i]? = some e) (he : e.own = [a]) (hx : x.own = [a]) (hσ : σ[i]? = some (some (.ref a)))
  (hw : ∀ ds, x = .ow a ds → ∃ xs, o = .lst xs ∧ Reps K (vis C (ows ρ) H) xs ds) (hd : ∀ ds, x = .od a ds → ∃ xs, o = .dT xs ∧ RepKV K (vis C (ows ρ) H) xs ds) (him : ∀ d, x ≠ .im d) (hot : ∀ as d, x ≠ .ot as d := by intro _ _ z; cases z) (hog : ∀ k ds, x = .og a k ds → ∃ xs, GForm K C.le a k xs o ∧ Reps K (vis C (ows ρ) H) xs ds := by intro _ _ z; cases z) :
  SRel K C (upd H a o) σ (ρ.set i x) ∧ Same (vis C (ows ρ) H) (vis C (ows (ρ.set i x)) (upd H a o)) := by
 have a1 : atT (H a) = false := by
  cases e with
  | no => cases he
  | im _ => cases he
  | ow b ds => cases he; obtain ⟨_, xs, h2, _⟩ := S.ow i _ _ h; rw [h2]; rfl
  | od b ds => cases he; obtain ⟨_, xs, h2, _⟩ := S.od i _ _ h; rw [h2]; rfl
  | ot as d =>
   obtain ⟨v, _, h2⟩ := S.ot i _ _ h
   obtain ⟨xs, h3⟩ := RepT.isl _ h2 a (by rw [show as = [a] from he]; exact List.mem_singleton_self a)
   rw [h3]; rfl
  | og b k ds => cases he; obtain ⟨_, xs, o', h2, h3, _⟩ := S.og i _ _ _ h; rw [h2]; exact h3.notT fun _ => atT_some'
 have a2 : atT (some o) = false := by
  cases x with
  | no => cases hx
  | im _ => cases hx
  | ow b ds => cases hx; obtain ⟨xs, h2, _⟩ := hw ds rfl; rw [h2]; rfl
  | od b ds => cases hx; obtain ⟨xs, h2, _⟩ := hd ds rfl; rw [h2]; rfl
  | ot as d => exact (hot as d rfl).elim
  | og b k ds => cases hx; obtain ⟨xs, h2, _⟩ := hog k ds rfl; exact h2.notT fun _ => atT_some'
 refine S.updOwns i h (by rw [he, hx]) (by rw [he]; exact List.mem_singleton_self a) hσ a1 a2 (fun b ds e1 => ?_) (fun b ds e1 => ?_) (fun as d e1 => (hot as d e1).elim) him (fun b k ds e1 => ?_)
 ·have eb : a = b := by rw [e1] at hx; exact (List.cons.inj hx).1.symm
  subst eb
  obtain ⟨xs, e2, h2⟩ := hw ds e1
  exact ⟨rfl, xs, by rw [upd_same, e2], h2⟩
 ·have eb : a = b := by rw [e1] at hx; exact (List.cons.inj hx).1.symm
  subst eb
  obtain ⟨xs, e2, h2⟩ := hd ds e1
  exact ⟨rfl, xs, by rw [upd_same, e2], h2⟩
 ·have eb : a = b := by rw [e1] at hx; exact (List.cons.inj hx).1.symm
  subst eb
  obtain ⟨xs, e2, h2⟩ := hog k ds e1
  exact ⟨rfl, xs, o, upd_same, e2, h2⟩
theorem SRel.updOw (S : SRel K C H σ ρ) (i : Nat) {a : Addr} {ds es : List D} {xs : List V} (h : ρ[i]? = some (.ow a ds)) (r : Reps K (vis C (ows ρ) H) xs es) :
  SRel K C (upd H a (.lst xs)) σ (ρ.set i (.ow a es)) ∧ Same (vis C (ows ρ) H) (vis C (ows (ρ.set i (.ow a es))) (upd H a (.lst xs))) :=
 S.updOwn i h rfl rfl (S.ow i a ds h).1 (fun ds' e => by cases e; exact ⟨xs, rfl, r⟩) (fun _ e => by cases e) (fun _ e => by cases e) fun _ _ e => by cases e
theorem SRel.freeze (S : SRel K C H σ ρ) (i : Nat) {a : Addr} {ds : List D} (h : ρ[i]? = some (.ow a ds)) : SRel K C H σ (ρ.set i (.im (.lst ds))) ∧ Same (vis C (ows ρ) H) (vis C (ows (ρ.set i (.im (.lst ds)))) H) := by
 have hi : i < ρ.length := (List.getElem?_eq_some_iff.mp h).1
 obtain ⟨h1, xs, h2, h3⟩ := S.ow i a ds h
 obtain ⟨S', s'⟩ := S.setNo i (some (.ref a))
 have eσ : σ.set i (some (.ref a)) = σ := by
  apply List.ext_getElem?
  intro j
  by_cases hj : j = i
  ·subst hj
   rw [List.getElem?_set_self (by rw [S.len]; exact hi), h1]
  ·rw [List.getElem?_set_ne (Ne.symm hj)]
 rw [eσ] at S'
 have na : a ∉ ows (ρ.set i .no) := own_out S.nd h (List.mem_singleton_self a) List.not_mem_nil
 have ma : a ∈ ows ρ := mem_ows h rfl
 have r : Rep K (vis C (ows (ρ.set i .no)) H) (.ref a) (.lst ds) := .lst (.inl (.inl (by
  rw [vis_at (S.fr a (.inl ma)).1 na (S.dj a ma)]
  exact h2))) (Reps.mono s' _ h3)
 obtain ⟨S2, s2⟩ := S'.setIm i r
 rw [eσ, List.set_set] at S2
 rw [List.set_set] at s2
 exact ⟨S2, s'.trans s2⟩
theorem SRel.thaw (S : SRel K C H σ ρ) (i : Nat) {as : List Addr} {d : D} (h : ρ[i]? = some (.ot as d)) : SRel K C H σ (ρ.set i (.im d)) ∧ Same (vis C (ows ρ) H) (vis C (ows (ρ.set i (.im d))) H) := by
 have hi : i < ρ.length := (List.getElem?_eq_some_iff.mp h).1
 obtain ⟨v, h1, h2⟩ := S.ot i as d h
 obtain ⟨S', s'⟩ := S.setNo i (some v)
 have eσ : σ.set i (some v) = σ := by
  apply List.ext_getElem?
  intro j
  by_cases hj : j = i
  ·subst hj
   rw [List.getElem?_set_self (by rw [S.len]; exact hi), h1]
  ·rw [List.getElem?_set_ne (Ne.symm hj)]
 rw [eσ] at S'
 have r : Rep K (vis C (ows (ρ.set i .no)) H) v d := RepT.rep s' _ (fun a ha => by
  have ma : a ∈ ows ρ := mem_owsL h ha
  exact vis_at (S.fr a (.inl ma)).1 (own_out S.nd h ha List.not_mem_nil) (S.dj a ma)) h2
 obtain ⟨S2, s2⟩ := S'.setIm i r
 rw [eσ, List.set_set] at S2
 rw [List.set_set] at s2
 exact ⟨S2, s'.trans s2⟩
end
end DL
namespace DL
open PySem PySem.Spec PyProof.Rows L2
section
variable {X : Cx} {C : Ctx} {ρ ρ' : Rho} {e a b c tg : Expr} {es rest tgs : List Expr} {st : Stmt} {sts t u : List Stmt} {d da db : D} {ds : List D} {pos p : Pos} {k : Bool} {P : Post}
theorem wp_nil (h : P.nx ρ) : WP X C ρ [] P := fun σ H D S L => wpSs_of pss_nil (L.nx ρ σ H h S (Same.refl _))
theorem wp_cons (h : WS X C ρ st { P with nx := fun ρ' => WP X C ρ' sts P }) : WP X C ρ (st :: sts) P := fun σ H D S L =>
 wpSs_of (pss_cons ps_wp pss_wp) (h σ H { D with nx := wpSs X sts D } S ⟨fun ρ' σ' H' q S' z => q σ' H' D S' (L.later z), L.bk, L.ct, L.rt, L.tk⟩)
theorem WP.imp {P' : Post} (h : WP X C ρ sts P) (n : ∀ ρ, P.nx ρ → P'.nx ρ) (r : ∀ x, P.rt x → P'.rt x) (b : ∀ ρ, P.bk ρ → P'.bk ρ) (c : ∀ ρ, P.ct ρ → P'.ct ρ) (e : ∀ x ρ, P.er x ρ → P'.er x ρ) : WP X C ρ sts P' := fun σ H D S L =>
 h σ H D S ⟨fun ρ σ H q => L.nx ρ σ H (n _ q), fun ρ σ H q => L.bk ρ σ H (b _ q), fun ρ σ H q => L.ct ρ σ H (c _ q), fun x v H q => L.rt x v H (r _ q), by
  obtain ⟨W, h1, h2⟩ := L.tk
  exact ⟨W, h1, fun x c ρ σ H q => h2 x c ρ σ H (e _ _ q)⟩⟩
theorem ws_drop (he : EE X C ρ e d) (h : P.nx ρ) (hs : swapsWith e none pos.line X.env = pure false := by rfl) : WS X C ρ (.Expr e pos) P := fun σ H D S L =>
 wpS_of (ps_expr pe_wp hs) (he σ H S _ fun v H1 s1 r1 => L.nx ρ σ H1 h (S.same s1) (vis_same s1))
theorem ws_ret (he : EE X C ρ e d) (h : P.rt (.im d)) : WS X C ρ (.Return (some e) pos) P := fun σ H D S L =>
 wpS_of (ps_ret pe_wp) (he σ H S _ fun v H1 s1 r1 => L.rt _ v H1 h (S.hh.trans s1) (Rep.mono (vis_sub fun _ z => absurd z List.not_mem_nil) _ r1))
theorem ws_retF (he : EF X C ρ e ds) (h : P.rt (.fr ds)) : WS X C ρ (.Return (some e) pos) P := fun σ H D S L =>
 wpS_of (ps_ret pe_wp) (he σ H S _ fun a xs H1 n s1 l r1 => L.rt _ _ H1 h (S.hh.trans s1) ⟨a, xs, rfl, (S.new n).1, l, Reps.mono (vis_sub fun b z => by
  have e : b = a := by simpa using z
  rw [e]
  exact List.mem_cons_self) _ r1⟩)
theorem ws_retO (i : Nat) {x : Str} {a : Addr} (hr : ρ[i]? = some (.ow a ds) := by rfl) (h : P.rt (.fr ds)) (hN : X.N[i]? = some x := by rfl) (hv : Vis X.env.scope x := by first | exact Or.inl rfl | exact Or.inr (Or.inl rfl) | exact Or.inr (Or.inr rfl))
  (hd : (x == ("__debug__" : Str)) = false := by decide) (hcd : (x == ("__classdict__" : Str)) = false := by decide) : WS X C ρ (.Return (some (.Name x p)) pos) P := fun σ H D S L => by
 obtain ⟨h1, xs, h2, h3⟩ := S.ow i a ds hr
 have ma : a ∈ ows ρ := mem_ows hr rfl
 exact wpS_of (ps_ret (pe_var hN hv hd hcd)) ⟨_, h1, L.rt _ _ H h S.hh ⟨a, xs, rfl, (S.fr a (.inl ma)).1, h2, Reps.mono (vis_sub fun b z => by
  have e : b = a := by simpa using z
  rw [e]
  exact ma) _ h3⟩⟩
theorem ws_if (hc : ET X C ρ c k) (h1 : k = true → WP X C ρ t P) (h2 : k = false → WP X C ρ u P) : WS X C ρ (.If c t u pos) P := fun σ H D S L =>
 wpS_of (ps_if pt_wp pss_wp pss_wp) (hc σ H S _ fun H1 s1 => by
  cases k with
  | true => exact iteT (h1 rfl σ H1 D (S.same s1) (L.later (vis_same s1)))
  | false => exact iteF (h2 rfl σ H1 D (S.same s1) (L.later (vis_same s1))))
theorem ws_set (i : Nat) {x : Str} {p' : Pos} (he : EE X C ρ e d) (hρ : ρ.set i (.im d) = ρ') (h : P.nx ρ') (hN : X.N.Nodup) (hi : X.N[i]? = some x := by rfl) (hx : Loc X.env.scope x := by first | exact Or.inl rfl | exact Or.inr rfl) (hs : swapsWith e (some (.Name x p')) pos.line X.env = pure false := by rfl)
  (hf : X.fn x = true ∨ X.env.scope.names.lookup x = some .local := by first | exact .inl rfl | exact .inr rfl) : WS X C ρ (.Assign [.Name x p'] e pos) P := fun σ H D S L => by
 subst hρ
 refine wpS_of (ps_set hN hi hx pe_wp hs hf) (he σ H S _ fun v H1 s1 r1 => ?_)
 obtain ⟨S2, s2⟩ := (S.same s1).setIm i r1
 exact L.nx _ _ H1 h S2 ((vis_same s1).trans s2)
theorem ws_par (i j : Nat) {x y : Str} {d1 d2 : D} {px py pt pt2 : Pos} {kt k2 : Nat} (ha : EA X C ρ [a, b] [d1, d2]) (hρ : (ρ.set i (.im d1)).set j (.im d2) = ρ') (h : P.nx ρ') (hN : X.N.Nodup) (hc : X.calm = true := by rfl) (hi : X.N[i]? = some x := by rfl) (hj : X.N[j]? = some y := by rfl) (hij : i ≠ j := by decide)
  (hx : X.env.scope.names.lookup x = some .local := by rfl) (hy : X.env.scope.names.lookup y = some .local := by rfl) (hw : swappedStores [.Tuple [.Name x px, .Name y py] kt pt] (.Tuple [a, b] k2 pt2) X.env = pure (some [x, y]) := by rfl)
  (hs : swapsWithSole [.Tuple [.Name x px, .Name y py] kt pt] (.Tuple [a, b] k2 pt2) pos.line X.env = pure false := by rfl) : WS X C ρ (.Assign [.Tuple [.Name x px, .Name y py] kt pt] (.Tuple [a, b] k2 pt2) pos) P := fun σ H D S L => by
 subst hρ
 refine wpS_of (ps_par hc hN hi hj hij hx hy pa_wp hw hs) (ha σ H S _ fun vs H1 s1 r1 => ?_)
 obtain ⟨v, w, rfl, q1, q2⟩ := reps2 r1
 obtain ⟨S2, s2⟩ := (S.same s1).setIm i q1
 obtain ⟨S3, s3⟩ := S2.setIm j (Rep.mono s2 _ q2)
 exact ⟨v, w, rfl, L.nx _ _ H1 h S3 (((vis_same s1).trans s2).trans s3)⟩
def Agr (L : List Nat) (σ σ' : L2.St) : Prop := σ'.length = σ.length ∧ ∀ j, j ∉ L → σ'[j]? = σ[j]?
def GT (X : Cx) (C : Ctx) (ρ : Rho) (tg : Expr) (d : D) (ρ' : Rho) (L : List Nat) : Prop :=
 ∀ σ H v, SRel X.K C H σ ρ → Rep X.K (vis C (ows ρ) H) v d → ∀ Q : L2.St → Hp → Prop, (∀ σ', SRel X.K C H σ' ρ' → Same (vis C (ows ρ) H) (vis C (ows ρ') H) → Agr L σ σ' → Q σ' H) → wpG X tg v σ H Q
def wpGs (X : Cx) (ts : List Expr) : TGs := fun vs σ H Q => ∀ pins s us, Inv X pins σ H s → Vals vs us → wpAny (model X.prog X.w) X.A (assignInOrder ((assignEach ts X.env).map (·.2)) us) (fun _ s' => ∃ σ' H', Inv X pins σ' H' s' ∧ Q σ' H') X.xe s
theorem pgs_wp {ts : List Expr} : PGs X ts (wpGs X ts) := ⟨fun pins s _ _ _ us _ I r h => h pins s us I r⟩
def GTs (X : Cx) (C : Ctx) (ρ : Rho) (ts : List Expr) (ds : List D) (ρ' : Rho) (L : List Nat) : Prop :=
 ∀ σ H vs, SRel X.K C H σ ρ → Reps X.K (vis C (ows ρ) H) vs ds → ∀ Q : L2.St → Hp → Prop, (∀ σ', SRel X.K C H σ' ρ' → Same (vis C (ows ρ) H) (vis C (ows ρ') H) → Agr L σ σ' → Q σ' H) → wpGs X ts vs σ H Q
theorem gt_name (i : Nat) {x : Str} (hN : X.N.Nodup) (hρ : ρ.set i (.im d) = ρ') (hi : X.N[i]? = some x := by rfl) (hx : Loc X.env.scope x := by first | exact Or.inl rfl | exact Or.inr rfl) (hf : X.fn x = true ∨ X.env.scope.names.lookup x = some .local := by first | exact .inl rfl | exact .inr rfl) : GT X C ρ (.Name x pos) d ρ' [i] := fun σ H v S r Q q => by
 subst hρ
 obtain ⟨S2, s2⟩ := S.setIm i r
 exact wpG_of (pg_name hN hi hx hf) (q _ S2 s2 ⟨by simp, fun j hj => List.getElem?_set_ne (fun z => hj (by simp [z]))⟩)
theorem gts_nil : GTs X C ρ [] [] ρ [] := fun σ H vs S r Q q pins s us I rv => pgs_nil.run pins s σ H vs us Q I rv ⟨by cases r; rfl, q σ S (Same.refl _) ⟨rfl, fun _ _ => rfl⟩⟩
theorem gts_cons {ρ'' : Rho} {L L' : List Nat} (h1 : GT X C ρ tg d ρ' L) (h2 : GTs X C ρ' tgs ds ρ'' L') (hs : (assignEach (tg :: tgs) X.env).map (·.2) = assign tg X.env :: (assignEach tgs X.env).map (·.2) := by rfl) : GTs X C ρ (tg :: tgs) (d :: ds) ρ'' (L ++ L') := fun σ H vs S r Q q pins s us I rv => by
 cases r with
 | cons r rs =>
  refine (pgs_cons pg_wp pgs_wp hs).run pins s σ H _ us Q I rv ⟨_, _, rfl, h1 σ H _ S r _ fun σ1 S1 s1 k1 => h2 σ1 H _ S1 (Reps.mono s1 _ rs) Q fun σ2 S2 s2 k2 => q σ2 S2 (s1.trans s2) ⟨k2.1.trans k1.1, fun j hj => ?_⟩⟩
  rw [List.mem_append, not_or] at hj
  rw [k2.2 j hj.2, k1.2 j hj.1]
theorem gt_tup {kk : Nat} {L : List Nat} (h : GTs X C ρ tgs ds ρ' L) (hc : X.calm = true := by rfl) (hn : (assignEach tgs X.env).length = ds.length := by rfl) (hst : (assignEach tgs X.env).findIdx? (·.1) = none := by rfl) : GT X C ρ (.Tuple tgs kk pos) (.tup ds) ρ' L := fun σ H v S r Q q => by
 cases r with
 | tup sq rs =>
  exact wpG_of (pg_tup hc pgs_wp hn hst) ⟨_, _, rfl, Same.seqT S.visIn (tq sq), rs.length, h σ H _ S rs Q q⟩
theorem gt_lst {kk : Nat} {L : List Nat} (h : GTs X C ρ tgs ds ρ' L) (hc : X.calm = true := by rfl) (hn : (assignEach tgs X.env).length = ds.length := by rfl) (hst : (assignEach tgs X.env).findIdx? (·.1) = none := by rfl) : GT X C ρ (.Tuple tgs kk pos) (.lst ds) ρ' L := fun σ H v S r Q q => by
 cases r with
 | lst sq rs =>
  exact wpG_of (pg_lst hc pgs_wp hn hst) ⟨_, _, rfl, S.visIn.seq sq, rs.length, h σ H _ S rs Q q⟩
theorem ws_asg {L0 : List Nat} (he : EE X C ρ e d) (hg : GT X C ρ tg d ρ' L0) (h : P.nx ρ') (hs : swapsWithSole [tg] e pos.line X.env = pure false := by rfl) (hw : swappedStores [tg] e X.env = pure none := by rfl) (h1 : (assignEach [tg] X.env).map (·.2) = [assign tg X.env] := by rfl) : WS X C ρ (.Assign [tg] e pos) P := fun σ H D S L =>
 wpS_of (ps_asg pe_wp pg_wp hs hw h1) (he σ H S _ fun v H1 s1 r1 => hg σ H1 v (S.same s1) r1 _ fun σ' S' s' _ => L.nx _ _ H1 h S' ((vis_same s1).trans s'))
theorem ws_app (i : Nat) {x : Str} {p1 p2 p3 : Pos} {a : Addr} (hr : ρ[i]? = some (.ow a ds) := by rfl) (he : EE X C ρ e d) (hl : ds.length < sizeLine) (hρ : ρ.set i (.ow a (ds ++ [d])) = ρ') (h : P.nx ρ') (hN : X.N[i]? = some x := by rfl)
  (hv : Vis X.env.scope x := by first | exact Or.inl rfl | exact Or.inr (Or.inl rfl) | exact Or.inr (Or.inr rfl)) (hs : swapsWith (.Call (.Attribute (.Name x p1) "append" p2) [e] [] p3) none pos.line X.env = pure false := by rfl)
  (hfew : ((backTo p3 (starEach [e] X.env)).all (fun x => !x.1) && (backToKw p3 (keywordEach [] X.env)).all (fun x => x.1.isSome) && decide (([e]).length + ([] : List Keyword).length + (if ([] : List Keyword).isEmpty then 0 else 1) < 30)) = true := by rfl)
  (hline : (p2.endLine == p3.line) = true := by rfl) (he1 : starEach [e] X.env = (false, eval e X.env) :: starEach [] X.env := by rfl) (hd : (x == ("__debug__" : Str)) = false := by decide) (hcd : (x == ("__classdict__" : Str)) = false := by decide) : WS X C ρ (.Expr (.Call (.Attribute (.Name x p1) "append" p2) [e] [] p3) pos) P := fun σ H D S L => by
 subst hρ
 obtain ⟨h1, xs, h2, h3⟩ := S.ow i a ds hr
 refine wpS_of (ps_expr (pe_bm PySem.F.plainAttrs_list PySem.F.slot_list_append PySem.F.type_list_append mt_append (pe_var hN hv hd hcd) (pa_cons pe_wp pa_nil he1) rfl hfew hline he1 rfl) hs) ⟨_, h1, .inl ⟨rfl, _, .inl (.inl h2)⟩, he σ H S _ fun v H1 s1 r1 => ?_⟩
 obtain ⟨S2, s2⟩ := (S.same s1).updOw i hr (((Reps.mono (vis_same s1) _ h3)).append (.cons r1 .nil))
 exact ⟨a, xs, v, rfl, rfl, s1 _ _ h2, by rw [h3.length]; exact hl, L.nx _ _ _ h S2 ((vis_same s1).trans s2)⟩
theorem wp_freeze (i : Nat) {a : Addr} (hr : ρ[i]? = some (.ow a ds) := by rfl) (hρ : ρ.set i (.im (.lst ds)) = ρ') (h : WP X C ρ' sts P) : WP X C ρ sts P := fun σ H D S L => by
 subst hρ
 obtain ⟨S2, s2⟩ := S.freeze i hr
 exact h σ H D S2 (L.later s2)
theorem ws_while (Iv : Rho → Prop) (μ : Rho → Nat) {body : List Stmt} (hp : PassesOwn (model X.prog X.w) X.A X.env X.xe) (h0 : Iv ρ) (hs : ∀ ρ, Iv ρ → ∃ k, ET X C ρ c k ∧ (k = true → WP X C ρ body { P with nx := fun ρ' => Iv ρ' ∧ μ ρ' < μ ρ, ct := fun ρ' => Iv ρ' ∧ μ ρ' < μ ρ, bk := P.nx }) ∧ (k = false → P.nx ρ)) :
  WS X C ρ (.While c body [] pos) P := fun σ H D S L => by
 refine wpS_of (ps_while hp pt_wp pss_wp) ⟨fun m σ' H' => ∃ ρ', Iv ρ' ∧ μ ρ' = m ∧ SRel X.K C H' σ' ρ' ∧ Same (vis C (ows ρ) H) (vis C (ows ρ') H'), ⟨μ ρ, ρ, h0, rfl, S, Same.refl _⟩, ?_⟩
 rintro m σ1 H1 ⟨ρ1, i1, rfl, S1, v1⟩
 obtain ⟨k, hc, hb, he⟩ := hs ρ1 i1
 refine hc σ1 H1 S1 _ fun H2 s2 => ?_
 cases k with
 | true =>
  refine iteT ⟨fun σ' H' => ∃ ρ', (Iv ρ' ∧ μ ρ' < μ ρ1) ∧ SRel X.K C H' σ' ρ' ∧ Same (vis C (ows ρ) H) (vis C (ows ρ') H'), fun σ' H' ⟨ρ', ⟨q1, q2⟩, S', v'⟩ => ⟨_, q2, ρ', q1, rfl, S', v'⟩, ?_⟩
  have L1 := L.later (v1.trans (vis_same s2))
  refine hb rfl σ1 H2 _ (S1.same s2) ⟨fun ρ' σ' H' q S' z => ⟨ρ', q, S', (v1.trans (vis_same s2)).trans z⟩, L1.nx, fun ρ' σ' H' q S' z => ⟨ρ', q, S', (v1.trans (vis_same s2)).trans z⟩, L1.rt, L1.tk⟩
 | false => exact iteF (L.nx _ _ _ (he rfl) (S1.same s2) (v1.trans (vis_same s2)))
structure Later (C : Ctx) (V0 : Hp) (o : List Addr) (H : Hp) : Prop where
 hh : Same C.H0 H
 vi : Same V0 (vis C o H)
 all : Same V0 H
 fr : ∀ a, a ∈ o ∨ a ∈ C.hid → H a ≠ none
theorem SRel.lat {K : PySem.W.Frag} {C : Ctx} {H : Hp} {σ : L2.St} {ρ : Rho} {V0 : Hp} (S : SRel K C H σ ρ) (v : Same V0 (vis C (ows ρ) H)) : Later C V0 (ows ρ) H := ⟨S.hh, v, v.trans S.visIn, fun a h => (S.fr a h).2⟩
structure Yl (K : PySem.W.Frag) (V0 : Hp) (J : It) (items : List D) : Prop where
 go : ∀ (C : Ctx) (o : List Addr) (H : Hp) (i : Nat), Later C V0 o H → i < items.length → J.go i H
 yl : ∀ (C : Ctx) (o : List Addr) (H : Hp) (i : Nat) (x : V) (H' : Hp), Later C V0 o H → i < items.length → J.yld i H x H' → ∃ d, items[i]? = some d ∧ Same H H' ∧ Rep K (vis C o H') x d
 stop : ∀ (C : Ctx) (o : List Addr) (H : Hp), Later C V0 o H → J.stop items.length H
theorem Yl.later {K : PySem.W.Frag} {V0 V1 : Hp} {J : It} {items : List D} (y : Yl K V0 J items) (s : Same V0 V1) : Yl K V1 J items :=
 have l : ∀ {C o H}, Later C V1 o H → Later C V0 o H := fun l => ⟨l.hh, s.trans l.vi, s.trans l.all, l.fr⟩
 ⟨fun C o H i h => y.go C o H i (l h), fun C o H i x H' h => y.yl C o H i x H' (l h), fun C o H h => y.stop C o H (l h)⟩
def wpI (X : Cx) (tg iter : Expr) : TI := fun σ H R => ∀ pins s, Inv X pins σ H s → wpAny (model X.prog X.w) X.A (eval iter X.env) (fun v s1 => wpAny (model X.prog X.w) X.A (pyIter v) (PIE X pins σ tg R) X.xe s1) X.xe s
theorem pi_wp {iter : Expr} : PI X tg iter (wpI X tg iter) := ⟨fun pins s _ _ _ I h => h pins s I⟩
theorem wpI_of {iter : Expr} {t : TI} (h : PI X tg iter t) {σ : L2.St} {H : Hp} {R : It → Hp → Prop} (q : t σ H R) : wpI X tg iter σ H R := fun pins s I => h.run pins s σ H R I q
def EI (X : Cx) (C : Ctx) (ρ : Rho) (tg iter : Expr) (items : List D) : Prop :=
 ∀ σ H, SRel X.K C H σ ρ → ∀ R : It → Hp → Prop, (∀ J H1, Same H H1 → Yl X.K (vis C (ows ρ) H1) J items → R J H1) → wpI X tg iter σ H R
theorem yl_list {K : PySem.W.Frag} {V0 : Hp} {a : Addr} {xs : List V} {ds : List D} (sq : SqL K V0 a xs) (r : Reps K V0 xs ds) : Yl K V0 (Itl K a) ds where
 go := fun C o H i l hi => by
  obtain ⟨v, h1, h2⟩ := r.get (List.getElem?_eq_getElem hi)
  exact ⟨xs, v, l.all.seq sq, h1⟩
 yl := fun C o H i x H' l hi y => by
  obtain ⟨rfl, y⟩ := y
  obtain ⟨v, h1, h2⟩ := r.get (List.getElem?_eq_getElem hi)
  have e := y xs (l.all.seq sq)
  rw [h1] at e
  cases e
  exact ⟨_, List.getElem?_eq_getElem hi, Same.refl _, Rep.mono l.vi _ h2⟩
 stop := fun C o H l => ⟨xs, l.all.seq sq, by rw [r.length]; exact Nat.le_refl _⟩
theorem yl_tup {K : PySem.W.Frag} {V0 : Hp} {a : Addr} {xs : List V} {ds : List D} (sq : SqT K V0 a xs) (r : Reps K V0 xs ds) : Yl K V0 (Itt K a) ds where
 go := fun C o H i l hi => by
  obtain ⟨v, h1, h2⟩ := r.get (List.getElem?_eq_getElem hi)
  exact ⟨xs, v, Same.seqT l.all sq, h1⟩
 yl := fun C o H i x H' l hi y => by
  obtain ⟨rfl, y⟩ := y
  obtain ⟨v, h1, h2⟩ := r.get (List.getElem?_eq_getElem hi)
  have e := y xs (Same.seqT l.all sq)
  rw [h1] at e
  cases e
  exact ⟨_, List.getElem?_eq_getElem hi, Same.refl _, Rep.mono l.vi _ h2⟩
 stop := fun C o H l => ⟨xs, Same.seqT l.all sq, by rw [r.length]; exact Nat.le_refl _⟩
def rngD (lo : Int) (n : Nat) : List D := (List.range n).map fun (i : Nat) => D.int (lo + (i : Int))
theorem yl_range {K : PySem.W.Frag} {V0 : Hp} {lo : Int} {n : Nat} : Yl K V0 (Itr lo n) (rngD lo n) where
 go := fun C o H i l hi => by show i < n; simpa [rngD] using hi
 yl := fun C o H i x H' l hi y => by
  obtain ⟨rfl, rfl⟩ := y
  have hi' : i < n := by simpa [rngD] using hi
  exact ⟨.int (lo + i), by simp [rngD, hi'], Same.refl _, .at _⟩
 stop := fun C o H l => by show n ≤ (rngD lo n).length; simp [rngD]
theorem ei_list (h : EE X C ρ e (.lst ds)) : EI X C ρ tg e ds := fun σ H S R q => wpI_of (pi_list pe_wp) (h σ H S _ fun v H1 s1 r1 => by
 cases r1 with
 | lst sq rs => exact ⟨_, rfl, ⟨_, (S.same s1).visIn.seq sq⟩, q _ H1 s1 (yl_list sq rs)⟩)
theorem ei_tup (h : EE X C ρ e (.tup ds)) : EI X C ρ tg e ds := fun σ H S R q => wpI_of (pi_tup pe_wp) (h σ H S _ fun v H1 s1 r1 => by
 cases r1 with
 | tup sq rs => exact ⟨_, rfl, ⟨_, Same.seqT (S.same s1).visIn (tq sq)⟩, q _ H1 s1 (yl_tup (tq sq) rs)⟩)
theorem ei_range1 {n : Int} (hm : X.mg "range" = none) (h : EE X C ρ e (.int n)) (h0 : -(2 ^ 62) ≤ n) (h1 : n < 2 ^ 62) (hg : Gl X "range" := by rfl) (hs : starEach [e] X.env = [(false, eval e X.env)] := by rfl) : EI X C ρ tg (.Call (.Name "range" p) [e] [] pos) (rngD 0 n.toNat) := fun σ H S R q =>
 wpI_of (pi_range1 hg hm (pa_cons pe_wp pa_nil hs) hs) (h σ H S _ fun v H1 s1 r1 => by
  cases r1
  exact ⟨n, rfl, h0, h1, q _ H1 s1 yl_range⟩)
def rngDc (lo c : Int) (n : Nat) : List D := (List.range n).map fun (i : Nat) => D.int (lo + (i : Int) * c)
def zipD (xs ys : List D) : List D := List.zipWith (fun x y => D.tup [x, y]) xs ys
theorem zipD_get {xs ys : List D} {i : Nat} {x y : D} (h1 : xs[i]? = some x) (h2 : ys[i]? = some y) : (zipD xs ys)[i]? = some (.tup [x, y]) := by
 unfold zipD
 rw [List.getElem?_zipWith, h1, h2]
theorem zipD_len (xs ys : List D) : (zipD xs ys).length = min xs.length ys.length := by unfold zipD; rw [List.length_zipWith]
theorem yl_pair {K : PySem.W.Frag} {V0 H : Hp} {C : Ctx} {o : List Addr} {T : Addr} {x y : V} {d1 d2 : D} (l : Later C V0 o H) (hT : H T = none) (r1 : Rep K V0 x d1) (r2 : Rep K V0 y d2) : Rep K (vis C o (upd H T (.tup [x, y]))) (.ref T) (.tup [d1, d2]) := by
 have n0 : C.H0 T = none := l.hh.free hT
 have no : T ∉ o := fun z => l.fr T (.inl z) hT
 have nh : T ∉ C.hid := fun z => l.fr T (.inr z) hT
 have m : Same V0 (vis C o (upd H T (.tup [x, y]))) := l.vi.trans (vis_same (same_upd hT))
 exact .tup (by rw [vis_at n0 no nh, upd_same]) (.cons (Rep.mono m _ r1) (.cons (Rep.mono m _ r2) .nil))
theorem yl_zipL {K : PySem.W.Frag} {V0 : Hp} {a b : Addr} {xs ys : List V} {ds es : List D} (sq : SqL K V0 a xs) (r : Reps K V0 xs ds) (sq2 : SqL K V0 b ys) (r2 : Reps K V0 ys es) : Yl K V0 (Itz K a b) (zipD ds es) where
 go := fun C o H i l hi => by
  rw [zipD_len] at hi
  obtain ⟨v, h1, _⟩ := r.get (List.getElem?_eq_getElem (show i < ds.length by omega))
  obtain ⟨u, h2, _⟩ := r2.get (List.getElem?_eq_getElem (show i < es.length by omega))
  exact ⟨xs, ys, v, u, l.all.seq sq, l.all.seq sq2, h1, h2⟩
 yl := fun C o H i x H' l hi y => by
  rw [zipD_len] at hi
  obtain ⟨T, v, u, rfl, hT, rfl, f1, f2⟩ := y
  obtain ⟨v', h1, q1⟩ := r.get (List.getElem?_eq_getElem (show i < ds.length by omega))
  obtain ⟨u', h2, q2⟩ := r2.get (List.getElem?_eq_getElem (show i < es.length by omega))
  have e1 := f1 xs (l.all.seq sq)
  have e2 := f2 ys (l.all.seq sq2)
  rw [h1] at e1
  rw [h2] at e2
  cases e1
  cases e2
  exact ⟨_, zipD_get (List.getElem?_eq_getElem _) (List.getElem?_eq_getElem _), same_upd hT, yl_pair l hT q1 q2⟩
 stop := fun C o H l => ⟨xs, ys, l.all.seq sq, l.all.seq sq2, by rw [zipD_len, r.length, r2.length]; omega⟩
theorem yl_zipT {K : PySem.W.Frag} {V0 : Hp} {a b : Addr} {xs ys : List V} {ds es : List D} (sq : SqT K V0 a xs) (r : Reps K V0 xs ds) (sq2 : SqT K V0 b ys) (r2 : Reps K V0 ys es) : Yl K V0 (RZ.ItzT K a b) (zipD ds es) where
 go := fun C o H i l hi => by
  rw [zipD_len] at hi
  obtain ⟨v, h1, _⟩ := r.get (List.getElem?_eq_getElem (show i < ds.length by omega))
  obtain ⟨u, h2, _⟩ := r2.get (List.getElem?_eq_getElem (show i < es.length by omega))
  exact ⟨xs, ys, v, u, Same.seqT l.all sq, Same.seqT l.all sq2, h1, h2⟩
 yl := fun C o H i x H' l hi y => by
  rw [zipD_len] at hi
  obtain ⟨T, v, u, rfl, hT, rfl, f1, f2⟩ := y
  obtain ⟨v', h1, q1⟩ := r.get (List.getElem?_eq_getElem (show i < ds.length by omega))
  obtain ⟨u', h2, q2⟩ := r2.get (List.getElem?_eq_getElem (show i < es.length by omega))
  have e1 := f1 xs (Same.seqT l.all sq)
  have e2 := f2 ys (Same.seqT l.all sq2)
  rw [h1] at e1
  rw [h2] at e2
  cases e1
  cases e2
  exact ⟨_, zipD_get (List.getElem?_eq_getElem _) (List.getElem?_eq_getElem _), same_upd hT, yl_pair l hT q1 q2⟩
 stop := fun C o H l => ⟨xs, ys, Same.seqT l.all sq, Same.seqT l.all sq2, by rw [zipD_len, r.length, r2.length]; omega⟩
theorem ei_zipL {elts : List Expr} {kk : Nat} {tpos : Pos} {es : List D} (hm : X.mg "zip" = none) (ha : EE X C ρ a (.lst ds)) (hb : EE X C ρ b (.lst es)) (hg : Gl X "zip" := by rfl) (hs : starEach [a, b] X.env = (false, eval a X.env) :: starEach [b] X.env := by rfl) (hs2 : starEach [b] X.env = (false, eval b X.env) :: starEach [] X.env := by rfl) (hpl : (backTo pos (starEach [b] X.env)).any (·.1) = false := by rfl) :
  EI X C ρ (.Tuple elts kk tpos) (.Call (.Name "zip" p) [a, b] [] pos) (zipD ds es) := fun σ H S R q =>
 wpI_of (RZ.pi_zipA hg hm (pa_cons pe_wp (pa_cons pe_wp pa_nil hs2) hs) hs hpl) (ha σ H S _ fun v H1 s1 r1 => hb σ H1 (S.same s1) _ fun u H2 s2 r2 => by
  cases r1 with
  | lst sq rs =>
   cases r2 with
   | lst sq2 rs2 =>
    have m := vis_same (C := C) (o := ows ρ) s2
    have i2 := ((S.same s1).same s2).visIn
    exact ⟨_, _, _, _, rfl, .inl ⟨i2.seq (m.seq sq), i2.seq sq2, q _ H2 (s1.trans s2) (yl_zipL (m.seq sq) (Reps.mono m _ rs) sq2 rs2)⟩⟩)
theorem ei_zipT {elts : List Expr} {kk : Nat} {tpos : Pos} {es : List D} (hm : X.mg "zip" = none) (ha : EE X C ρ a (.tup ds)) (hb : EE X C ρ b (.tup es)) (hg : Gl X "zip" := by rfl) (hs : starEach [a, b] X.env = (false, eval a X.env) :: starEach [b] X.env := by rfl) (hs2 : starEach [b] X.env = (false, eval b X.env) :: starEach [] X.env := by rfl) (hpl : (backTo pos (starEach [b] X.env)).any (·.1) = false := by rfl) :
  EI X C ρ (.Tuple elts kk tpos) (.Call (.Name "zip" p) [a, b] [] pos) (zipD ds es) := fun σ H S R q =>
 wpI_of (RZ.pi_zipA hg hm (pa_cons pe_wp (pa_cons pe_wp pa_nil hs2) hs) hs hpl) (ha σ H S _ fun v H1 s1 r1 => hb σ H1 (S.same s1) _ fun u H2 s2 r2 => by
  cases r1 with
  | tup sq rs =>
   cases r2 with
   | tup sq2 rs2 =>
    have m := vis_same (C := C) (o := ows ρ) s2
    have i2 := ((S.same s1).same s2).visIn
    exact ⟨_, _, _, _, rfl, .inr ⟨Same.seqT i2 (Same.seqT m (tq sq)), Same.seqT i2 (tq sq2), q _ H2 (s1.trans s2) (yl_zipT (Same.seqT m (tq sq)) (Reps.mono m _ rs) (tq sq2) rs2)⟩⟩)
theorem ws_for {iter : Expr} {body : List Stmt} {items : List D} (Iv : Nat → Rho → Prop) (hp : PassesOwn (model X.prog X.w) X.A X.env X.xe) (hi : EI X C ρ tg iter items) (h0 : Iv 0 ρ)
  (hs : ∀ (i : Nat) (d : D) ρ, items[i]? = some d → Iv i ρ → ∃ ρg L0, GT X C ρ tg d ρg L0 ∧ WP X C ρg body { P with nx := Iv (i + 1), ct := Iv (i + 1), bk := P.nx }) (hd : ∀ ρ, Iv items.length ρ → P.nx ρ)
  (hc : X.calm = true := by rfl) (hf : ∀ x, foldedSetIterable iter X.env x = pure x := by intro _; rfl) : WS X C ρ (.For tg iter body [] pos) P := fun σ H D S L => by
 refine wpS_of (ps_for hp hc pi_wp pg_wp pss_wp hf) (hi σ H S _ fun J H1 s1 y1 => ?_)
 have S1 := S.same s1
 refine ⟨fun i m σ' H' => i + m = items.length ∧ ∃ ρ', Iv i ρ' ∧ SRel X.K C H' σ' ρ' ∧ Same (vis C (ows ρ) H1) (vis C (ows ρ') H'), ⟨items.length, by omega, ρ, h0, S1, Same.refl _⟩, ?_⟩
 rintro i m σ2 H2 ⟨em, ρ2, i2, S2, v2⟩
 have L2 := L.later ((vis_same s1).trans v2)
 by_cases hlt : i < items.length
 ·refine .inr ⟨y1.go C _ _ i (S2.lat v2) hlt, fun σ' H' => ∃ ρ', Iv (i + 1) ρ' ∧ SRel X.K C H' σ' ρ' ∧ Same (vis C (ows ρ) H1) (vis C (ows ρ') H'), fun σ' H' ⟨ρ', q1, S', v'⟩ => ⟨m - 1, by omega, by omega, ρ', q1, S', v'⟩, fun x H3 y => ?_⟩
  obtain ⟨d, hd', s3, r3⟩ := y1.yl C _ _ i x H3 (S2.lat v2) hlt y
  obtain ⟨ρg, L0, hg, hb⟩ := hs i d ρ2 hd' i2
  refine hg σ2 H3 x (S2.same s3) r3 _ fun σ4 S4 s4 _ => ?_
  have v4 := (v2.trans (vis_same s3)).trans s4
  have L4 := L.later ((vis_same s1).trans v4)
  exact hb σ4 H3 _ S4 ⟨fun ρ' σ' H' q S' z => ⟨ρ', q, S', v4.trans z⟩, L4.nx, fun ρ' σ' H' q S' z => ⟨ρ', q, S', v4.trans z⟩, L4.rt, L4.tk⟩
 ·have e : i = items.length := by omega
  subst e
  exact .inl ⟨y1.stop C _ _ (S2.lat v2), L2.nx _ _ _ (hd _ i2) S2 (Same.refl _)⟩
end
end DL
namespace DL
open PySem PySem.Spec PyProof.Rows L2
def wipeR (ρ : Rho) : List Nat → Rho
 | [] => ρ
 | v :: vs => (wipeR ρ vs).set v .no
theorem SRel.wiped {K : PySem.W.Frag} {C : Ctx} {H : Hp} {σ : L2.St} {ρ : Rho} (S : SRel K C H σ ρ) : ∀ vs : List Nat, SRel K C H (wipe σ vs) (wipeR ρ vs)
 | [] => S
 | v :: vs => ((S.wiped vs).setNo v none).1
theorem wipe_in {σ : L2.St} {i : Nat} : ∀ {vs : List Nat}, i ∈ vs → i < σ.length → (wipe σ vs)[i]? = some none
 | v :: vs, h, l => by
  unfold wipe
  by_cases e : v = i
  ·subst e
   exact List.getElem?_set_self (by rw [wipe_length]; exact l)
  ·rw [List.getElem?_set_ne e]
   refine wipe_in ?_ l
   rcases List.mem_cons.mp h with z | z
   ·exact absurd z.symm e
   ·exact z
theorem wipe_again {σ σ' : L2.St} {vs L : List Nat} (hl : σ'.length = (wipe σ vs).length) (hL : ∀ j ∈ L, j ∈ vs) (h : ∀ j, j ∉ L → σ'[j]? = (wipe σ vs)[j]?) : wipe σ' vs = wipe σ vs := by
 apply List.ext_getElem?
 intro j
 by_cases m : j ∈ vs
 ·by_cases hj : j < σ.length
  ·rw [wipe_in m hj, wipe_in m (by rw [hl, wipe_length]; exact hj)]
  ·rw [List.getElem?_eq_none (by rw [wipe_length, hl, wipe_length]; omega), List.getElem?_eq_none (by rw [wipe_length]; omega)]
 ·rw [wipe_out m, h j fun z => m (hL j z)]
def Blk (X : Cx) (scope : Scope) (X' : Cx) : Prop := ∃ (s : Shared) (H : Hp) (c : Addr) (cl : List (Str × Addr)) (fp : List Addr), X' = X.blk s H scope (compEnvC scope cl c X.env) fp
def wpTs (X : Cx) (ifs : List Expr) : TT := fun σ H Q => ∀ pins s, Inv X pins σ H s →
 wpAny (model X.prog X.w) X.A (forIn ifs true fun c r => if r = true then do let ok ← isTrue c X.env (eval c X.env); pure (ForInStep.yield ok) else pure (ForInStep.yield r)) (TP X pins σ Q) X.xe s
def ETs (X : Cx) (C : Ctx) (ρ : Rho) (ifs : List Expr) (c : Bool) : Prop :=
 ∀ σ H, SRel X.K C H σ ρ → ∀ Q : Bool → Hp → Prop, (∀ H', Same H H' → Q c H') → wpTs X ifs σ H Q
section
variable {X : Cx} {C : Ctx} {ρ ρw : Rho} {e elt tg iter : Expr} {ifs : List Expr} {scope : Scope} {own : List (Str × Nat)} {pos spos py : Pos} {P : Post} {k : Bool}
theorem ets_nil : ETs X C ρ [] true := fun σ H S Q q => fun pins s I => pts_nil.run pins s σ H Q I (q H (Same.refl _))
theorem SRel.hide {K : PySem.W.Frag} {H : Hp} {σ : L2.St} (S : SRel K C H σ ρ) {D : Addr} {o : HO} (n : H D = none) : SRel K { C with hid := D :: C.hid } (upd H D o) σ ρ ∧ Same (vis C (ows ρ) H) (vis { C with hid := D :: C.hid } (ows ρ) (upd H D o)) := by
 obtain ⟨n0, no, nh⟩ := S.new n
 have sm : Same (vis C (ows ρ) H) (vis { C with hid := D :: C.hid } (ows ρ) (upd H D o)) := fun b u hb => by
  have nb : b ≠ D := ne_of_none (S.visIn _ _ hb) n
  unfold vis at hb ⊢
  simp only [List.mem_cons, nb, false_or, upd_ne nb]
  exact hb
 have sH : Same H (upd H D o) := same_upd n
 refine ⟨⟨S.len, S.gh, S.hh.trans sH, S.nd, fun a h => ?_, fun a h z => ?_, fun i d h => ?_, fun i a ds h => ?_, fun i a ds h => ?_, fun i as t h => ?_, fun i a k ds h => ?_⟩, sm⟩
 ·rcases h with h | h
  ·exact ⟨(S.fr a (.inl h)).1, fun z => (S.fr a (.inl h)).2 (sH.free z)⟩
  ·rcases List.mem_cons.mp h with z | z
   ·subst z
    exact ⟨n0, by rw [upd_same]; intro z; cases z⟩
   ·exact ⟨(S.fr a (.inr z)).1, fun y => (S.fr a (.inr z)).2 (sH.free y)⟩
 ·rcases List.mem_cons.mp z with z | z
  ·exact no (z ▸ h)
  ·exact S.dj a h z
 ·obtain ⟨v, h1, h2⟩ := S.im i d h
  exact ⟨v, h1, Rep.mono sm _ h2⟩
 ·obtain ⟨h1, xs, h2, h3⟩ := S.ow i a ds h
  exact ⟨h1, xs, sH _ _ h2, Reps.mono sm _ h3⟩
 ·obtain ⟨h1, xs, h2, h3⟩ := S.od i a ds h
  exact ⟨h1, xs, sH _ _ h2, h3.mono sm⟩
 ·obtain ⟨v, h1, h2⟩ := S.ot i as t h
  exact ⟨v, h1, RepT.mono sm _ (fun b hb => by
   obtain ⟨xs, q⟩ := RepT.isl _ h2 b hb
   rw [q]
   exact (sH _ _ q).symm) h2⟩
 ·obtain ⟨h1, xs, o, h2, h3, h4⟩ := S.og i a k ds h
  exact ⟨h1, xs, o, sH _ _ h2, h3, Reps.mono sm _ h4⟩
theorem vis_hid {C : Ctx} {o : List Addr} {H : Hp} {a : Addr} {x : HO} (ha : a ∈ C.hid) (h1 : atT (H a) = false) (h2 : atT (some x) = false) : vis C o (upd H a x) = vis C o H := by
 funext b
 by_cases e : b = a
 ·subst e
  unfold vis
  rw [upd_same, if_pos (show (b ∈ o ∨ b ∈ C.hid) ∧ atT (some x) = false from ⟨Or.inr ha, h2⟩), if_pos (show (b ∈ o ∨ b ∈ C.hid) ∧ atT (H b) = false from ⟨Or.inr ha, h1⟩)]
 ·unfold vis
  rw [upd_ne e]
theorem SRel.updHid {K : PySem.W.Frag} {H : Hp} {σ : L2.St} (S : SRel K C H σ ρ) {D : Addr} {o : HO} (m : D ∈ C.hid) (b1 : atT (H D) = false) (b2 : atT (some o) = false) : SRel K C (upd H D o) σ ρ := by
 have ev : vis C (ows ρ) (upd H D o) = vis C (ows ρ) H := vis_hid m b1 b2
 have n0 := (S.fr D (.inr m)).1
 refine ⟨S.len, S.gh, fun b u q => ?_, S.nd, fun a h => ⟨(S.fr a h).1, ?_⟩, S.dj, fun i d h => by rw [ev]; exact S.im i d h, fun i a ds h => ?_, fun i a ds h => ?_, fun i as t h => ?_, fun i a k ds h => ?_⟩
 ·rw [upd_ne (fun z => by rw [z, n0] at q; cases q)]
  exact S.hh _ _ q
 ·by_cases z : a = D
  ·rw [z, upd_same]; intro y; cases y
  ·rw [upd_ne z]; exact (S.fr a h).2
 ·obtain ⟨h1, xs, h2, h3⟩ := S.ow i a ds h
  have na : a ≠ D := fun z => S.dj a (mem_ows h rfl) (z ▸ m)
  rw [ev]
  exact ⟨h1, xs, by rw [upd_ne na]; exact h2, h3⟩
 ·obtain ⟨h1, xs, h2, h3⟩ := S.od i a ds h
  have na : a ≠ D := fun z => S.dj a (mem_ows h rfl) (z ▸ m)
  rw [ev]
  exact ⟨h1, xs, by rw [upd_ne na]; exact h2, h3⟩
 ·obtain ⟨v, h1, h2⟩ := S.ot i as t h
  rw [ev]
  exact ⟨v, h1, RepT.mono (Same.refl _) _ (fun b hb => by
   have na : b ≠ D := fun z => S.dj b (mem_owsL h hb) (z ▸ m)
   rw [upd_ne na]) h2⟩
 ·obtain ⟨h1, xs, o, h2, h3, h4⟩ := S.og i a k ds h
  have na : a ≠ D := fun z => S.dj a (mem_ows h rfl) (z ▸ m)
  rw [ev]
  exact ⟨h1, xs, o, by rw [upd_ne na]; exact h2, h3, h4⟩
def cG (X : Cx) (scope : Scope) (tg : Expr) : TG := fun v σ H Q => ∃ (C : Ctx) (ρ : Rho) (d : D) (ρg : Rho) (L : List Nat), SRel X.K C H σ ρ ∧ Rep X.K (vis C (ows ρ) H) v d ∧ (∀ X', Blk X scope X' → GT X' C ρ tg d ρg L) ∧
 ∀ σ', SRel X.K C H σ' ρg → Same (vis C (ows ρ) H) (vis C (ows ρg) H) → Agr L σ σ' → Q σ' H
def cT (X : Cx) (scope : Scope) (ifs : List Expr) : TT := fun σ H Q => ∃ (C : Ctx) (ρ : Rho) (c : Bool), SRel X.K C H σ ρ ∧ (∀ X', Blk X scope X' → ETs X' C ρ ifs c) ∧ ∀ H', Same H H' → Q c H'
def cE (X : Cx) (scope : Scope) (elt : Expr) : TE := fun σ H Q => ∃ (C : Ctx) (ρ : Rho) (d : D), SRel X.K C H σ ρ ∧ (∀ X', Blk X scope X' → EE X' C ρ elt d) ∧ ∀ v H', Same H H' → Rep X.K (vis C (ows ρ) H') v d → Q v H'
theorem cG_ok (s : Shared) (H : Hp) (c : Addr) (cl : List (Str × Addr)) (fp : List Addr) : PG (X.blk s H scope (compEnvC scope cl c X.env) fp) tg (cG X scope tg) := ⟨fun pins s' σ H' v u Q I r ⟨C, ρ, d, ρg, L, S, rr, hg, q⟩ => hg _ ⟨s, H, c, cl, fp, rfl⟩ σ H' v S rr Q q pins s' u I r⟩
theorem cT_ok (s : Shared) (H : Hp) (c : Addr) (cl : List (Str × Addr)) (fp : List Addr) : PTs (X.blk s H scope (compEnvC scope cl c X.env) fp) ifs (cT X scope ifs) := ⟨fun pins s' σ H' Q I ⟨C, ρ, k, S, hg, q⟩ => hg _ ⟨s, H, c, cl, fp, rfl⟩ σ H' S Q q pins s' I⟩
theorem cE_ok (s : Shared) (H : Hp) (c : Addr) (cl : List (Str × Addr)) (fp : List Addr) : PE (X.blk s H scope (compEnvC scope cl c X.env) fp) elt (cE X scope elt) := ⟨fun pins s' σ H' Q I ⟨C, ρ, d, S, hg, q⟩ => hg _ ⟨s, H, c, cl, fp, rfl⟩ σ H' S Q q pins s' I⟩
def LcOk {β : Type} (X : Cx) (scope : Scope) (own : List (Str × Nat)) (tg : Expr) (ifs : List Expr) (elt : Expr) (ρw : Rho) (xs : List β) (enc : β → D) (p : β → Bool) (f : β → D) : Prop :=
 ∀ (C : Ctx) (i : Nat) (x : β), xs[i]? = some x → ∃ ρg L, (∀ X', Blk X scope X' → GT X' C ρw tg (enc x) ρg L) ∧ ows ρg = ows ρw ∧ (∀ j ∈ L, j ∈ own.map (·.2)) ∧ (∀ X', Blk X scope X' → ETs X' C ρg ifs (p x)) ∧ (p x = true → ∀ X', Blk X scope X' → EE X' C ρg elt (f x))
theorem lc_reading {β : Type} {xs : List β} {enc : β → D} {p : β → Bool} {f : β → D} {σ : L2.St} {H : Hp} (S : SRel X.K C H σ ρ) (hi : EI X C ρ tg iter (xs.map enc)) (hw : wipeR ρ (own.map (·.2)) = ρw) (how : ows ρw = ows ρ) (hz : xs.length ≤ sizeLine)
  (hs : LcOk X scope own tg ifs elt ρw xs enc p f) {Q : VK} (q : ∀ a vs H', H a = none → Same H H' → H' a = some (.lst vs) → Reps X.K (vis C (a :: ows ρ) H') vs ((xs.filter p).map f) → Q (.ref a) H') :
  tLc (wpI X tg iter) (cG X scope tg) (cT X scope ifs) (cE X scope elt) (own.map (·.2)) σ H Q := by
 refine hi σ H S _ fun J H1 s1 y1 D nD => ?_
 have S1 := S.same s1
 obtain ⟨Sh, vh⟩ := S1.hide (o := .lst []) nD
 have mD : D ∈ (D :: C.hid) := List.mem_cons_self
 have Sw : SRel X.K { C with hid := D :: C.hid } (upd H1 D (.lst [])) (wipe σ (own.map (·.2))) ρw := hw ▸ Sh.wiped _
 refine ⟨fun i m H' => i + m = xs.length ∧ ∃ acc, H' D = some (.lst acc) ∧ SRel X.K { C with hid := D :: C.hid } H' (wipe σ (own.map (·.2))) ρw ∧ Reps X.K (vis { C with hid := D :: C.hid } (ows ρw) H') acc (((xs.take i).filter p).map f) ∧
  Same (vis C (ows ρ) H1) (vis { C with hid := D :: C.hid } (ows ρw) H') ∧ Same H1 H', ⟨xs.length, by omega, [], upd_same, Sw, by rw [List.take_zero]; exact .nil, by rw [how]; exact vh, same_upd nD⟩, ?_⟩
 rintro i m H2 ⟨em, acc, hD, S2, racc, v2, h12⟩
 by_cases hlt : i < xs.length
 ·have hlt' : i < (xs.map enc).length := by rw [List.length_map]; exact hlt
  have hx : xs[i]? = some xs[i] := List.getElem?_eq_getElem hlt
  obtain ⟨ρg, L, hG, eg, hL, hT, hE⟩ := hs { C with hid := D :: C.hid } i xs[i] hx
  have tk : xs.take (i + 1) = xs.take i ++ [xs[i]] := by rw [List.take_add_one, hx]; rfl
  refine .inr ⟨y1.go _ _ _ i (S2.lat v2) hlt', fun H' => ∃ acc, H' D = some (.lst acc) ∧ SRel X.K { C with hid := D :: C.hid } H' (wipe σ (own.map (·.2))) ρw ∧ Reps X.K (vis { C with hid := D :: C.hid } (ows ρw) H') acc (((xs.take (i + 1)).filter p).map f) ∧
   Same (vis C (ows ρ) H1) (vis { C with hid := D :: C.hid } (ows ρw) H') ∧ Same H1 H', fun H' ⟨acc', w⟩ => ⟨m - 1, by omega, by omega, acc', w⟩, fun x H3 y => ?_⟩
  obtain ⟨d, hd', s3, r3⟩ := y1.yl _ _ _ i x H3 (S2.lat v2) hlt' y
  have ed : d = enc xs[i] := by
   rw [List.getElem?_map, hx] at hd'
   exact (Option.some.inj hd').symm
  subst ed
  refine ⟨_, ρw, enc xs[i], ρg, L, S2.same s3, r3, hG, fun σ4 S4 s4 k4 => ⟨wipe_again k4.1 hL k4.2, ?_⟩⟩
  refine ⟨_, ρg, p xs[i], S4, hT, fun H5 s5 => ?_⟩
  have w5 : SRel X.K { C with hid := D :: C.hid } H5 (wipe σ (own.map (·.2))) ρw := (S2.same s3).same s5
  have vv5 : Same (vis { C with hid := D :: C.hid } (ows ρw) H2) (vis { C with hid := D :: C.hid } (ows ρw) H5) := vis_same (s3.trans s5)
  cases hp : p xs[i] with
  | true =>
   refine iteT ⟨_, ρg, f xs[i], S4.same s5, hE hp, fun v H6 s6 r6 => ?_⟩
   have s26 := (s3.trans s5).trans s6
   have hlen : acc.length ≤ i := by
    have h1 := racc.length
    rw [List.length_map] at h1
    have h2 := List.length_filter_le p (xs.take i)
    rw [List.length_take] at h2
    omega
   have b1 : atT (H6 D) = false := by rw [s26 _ _ hD]; rfl
   refine ⟨acc, s26 _ _ hD, by omega, acc ++ [v], upd_same, (S2.same s26).updHid mD b1 rfl, ?_, ?_, ?_⟩
   ·rw [vis_hid mD b1 rfl, tk, List.filter_append, List.map_append]
    refine (Reps.mono (vis_same s26) _ racc).append ?_
    have e1 : List.filter p [xs[i]] = [xs[i]] := by simp [hp]
    rw [e1]
    rw [eg] at r6
    exact .cons r6 .nil
   ·rw [vis_hid mD b1 rfl]
    exact v2.trans (vis_same s26)
   ·intro b u hb
    have nb : b ≠ D := ne_of_none hb nD
    rw [upd_ne nb]
    exact s26 _ _ (h12 _ _ hb)
  | false =>
   refine iteF ⟨acc, (s3.trans s5) _ _ hD, w5, ?_, v2.trans vv5, h12.trans (s3.trans s5)⟩
   rw [tk, List.filter_append, List.map_append]
   have e1 : List.filter p [xs[i]] = [] := by simp [hp]
   rw [e1, List.map_nil, List.append_nil]
   exact Reps.mono vv5 _ racc
 ·have e : i = xs.length := by omega
  subst e
  refine .inl ⟨by have h := y1.stop _ _ _ (S2.lat v2); rw [List.length_map] at h; exact h, q D acc H2 (s1.free nD) (s1.trans h12) hD ?_⟩
  rw [List.take_length] at racc
  refine Reps.mono (fun b u hb => ?_) _ racc
  rw [how] at hb
  unfold vis at hb ⊢
  simp only [List.mem_cons] at hb ⊢
  split
  ·rename_i z; rw [if_pos z] at hb; exact hb
  ·rename_i z
   rw [if_neg z] at hb
   split at hb
   ·cases hb
   ·rename_i z2
    rw [if_neg (by intro z3; exact z2 ⟨by rcases z3.1 with (z3 | z3) | z3; exact .inr (.inl z3); exact .inl z3; exact .inr (.inr z3), z3.2⟩)]
    exact hb
theorem ef_lc {β : Type} {xs : List β} {enc : β → D} {p : β → Bool} {f : β → D} (hi : EI X C ρ tg iter (xs.map enc)) (hs : LcOk X scope own tg ifs elt ρw xs enc p f) (hw : wipeR ρ (own.map (·.2)) = ρw) (how : ows ρw = ows ρ) (hz : xs.length ≤ sizeLine)
  (ok : BlkOk X.N X.env.scope scope own) (hN : X.N.Nodup) (hc : X.calm = true := by rfl) (hf : ∀ x, foldedSetIterable iter X.env x = pure x := by intro _; rfl) : EF X C ρ (.ListComp elt [⟨tg, iter, ifs, 0⟩] scope pos) ((xs.filter p).map f) := fun σ H S Q q =>
 wpE_of (pe_lc hc hN pi_wp ok cG_ok cT_ok cE_ok hf) (lc_reading S hi hw how hz hs q)
structure ExcT (K : PySem.W.Frag) (mg : Str → Option Value) (x : Str) (Cl : Addr) : Prop where
 gC : mg x = some (.ref Cl)
 nC : clsOf K x = some Cl
 xF : PySem.W.excIn K Cl [.type "ValueError", .type "Exception", .type "BaseException", .type "object"] "ValueError.__new__" = true
 kF : PySem.W.keepIn K (.ref Cl) = true
 bF : PySem.W.subIn K (.ref Cl) (.type "BaseException") = some true
 tF : PySem.W.typeIn K (.ref Cl) = some (.type "type")
 ec : ExcC K Cl
theorem ws_raise {x m : Str} {Cl : Addr} {j : Nat} {p p2 p3 : Pos} (T : ExcT X.K X.mg x Cl) (h : P.er x ρ) (hc : X.calm = true := by rfl) (hg : Gl X x := by rfl) (hdb : (x == ("__debug__" : Str)) = false := by decide) : WS X C ρ (.Raise (some (.Call (.Name x p) [.Constant (.str m) j p2] [] p3)) none pos) P := fun σ H D S L => by
 obtain ⟨W, tk, hW⟩ := L.tk
 exact wpS_of (ps_raise hc tk (pmk_own PySem.F.excBase_ValueError T.xF T.gC T.kF (raises_own T.bF T.tF) hg hdb)) (hW x Cl ρ σ H h T.nC S (Same.refl _))
end
def startR (N : List Str) (ds : List D) : Rho := ds.map En.im ++ List.replicate (N.length - ds.length) .no
def fnPost (r : Res) : Post := { nx := fun _ => r = .ok (.im .non), rt := fun t => r = .ok t, er := fun c _ => r = .er c }
theorem srel_start {K : PySem.W.Frag} {H G : Hp} {N ps : List Str} {vs : List V} {ds : List D} (g : Same G H) (r : Reps K G vs ds) : SRel K ⟨H, G, [], []⟩ H (L2.start N vs) (startR N ds) := by
 have o0 : ows (startR N ds) = [] := by
  unfold ows startR
  rw [List.flatMap_eq_nil_iff]
  intro e he
  rcases List.mem_append.mp he with h | h
  ·obtain ⟨d, _, rfl⟩ := List.mem_map.mp h
   rfl
  ·rw [List.eq_of_mem_replicate h]
   rfl
 have gv : Same G (vis ⟨H, G, [], []⟩ [] H) := fun b x h => by
  unfold vis
  rw [if_pos (show (H b).isSome = true by rw [g _ _ h]; rfl)]
  unfold Ctx.see
  dsimp only
  split
  ·exact g _ _ h
  ·exact h
 have only : ∀ (i : Nat) (e : En), (startR N ds)[i]? = some e → (∃ d, e = .im d ∧ ds[i]? = some d ∧ i < ds.length) ∨ e = .no := fun i e h => by
  unfold startR at h
  by_cases hi : i < ds.length
  ·rw [List.getElem?_append_left (by simpa using hi), List.getElem?_map] at h
   cases q : ds[i]? with
   | none => rw [q] at h; cases h
   | some d => rw [q] at h; exact .inl ⟨d, (Option.some.inj h).symm, rfl, hi⟩
  ·rw [List.getElem?_append_right (by simpa using hi), List.getElem?_replicate] at h
   split at h
   ·exact .inr (Option.some.inj h).symm
   ·cases h
 refine ⟨?_, g, Same.refl _, (fun i j e e' a h1 _ o1 _ => by have z := mem_owsL h1 o1; rw [o0] at z; cases z), fun a h => ?_, fun a h => ?_, fun i d h => ?_, fun i a ds' h => ?_, fun i a ds' h => ?_, fun i a ds' h => ?_, fun i a k ds' h => ?_⟩
 ·unfold L2.start startR
  simp [r.length]
 ·rw [o0] at h
  rcases h with h | h <;> cases h
 ·rw [o0] at h
  cases h
 ·rcases only i _ h with ⟨d', e, hd, hi⟩ | e
  ·cases e
   obtain ⟨v, h1, h2⟩ := r.get hd
   refine ⟨v, ?_, ?_⟩
   ·unfold L2.start
    rw [List.getElem?_append_left (by rw [List.length_map, r.length]; exact hi), List.getElem?_map, h1]
    rfl
   ·rw [o0]
    exact Rep.mono gv _ h2
  ·cases e
 ·rcases only i _ h with ⟨d', e, _⟩ | e <;> cases e
 ·rcases only i _ h with ⟨d', e, _⟩ | e <;> cases e
 ·rcases only i _ h with ⟨d', e, _⟩ | e <;> cases e
 ·rcases only i _ h with ⟨d', e, _⟩ | e <;> cases e
section
variable {P : Program} {w : World} {K : PySem.W.Frag} {mg : Str → Option Value} {base : Heap}
theorem spF_len {α : Type} {arg : α → List D} {pre : α → Prop} {res : α → Res} {n : Nat} (hl : ∀ y, (arg y).length = n) : ∀ vs H Q E, spF K arg pre res vs H Q E → vs.length = n := fun vs H Q E h => by
 obtain ⟨G, y, _, r, _⟩ := h
 rw [r.length, hl]
theorem fn_of_body {α : Type} {arg : α → List D} {pre : α → Prop} {res : α → Ret} {x qual : Str} {st : Stmt} {f : Addr} {fd : FuncData} {N ps : List Str} {k : Nat} (F : Fun K x qual st f fd) (S : FnScope N ps (defScope st)) (hl : ∀ y, (arg y).length = ps.length)
  (body : ∀ (cdv : Value) (A : Around) (outer : List Env) (s : Shared) (H : Hp) (E : XK) (C : Ctx), Room k (A.deeper (envOfC qual (defScope st) s.heap.objs.size f cdv)) → ∀ y, pre y →
   WP (cxOf CX0 P w K mg base N qual (defScope st) f cdv A outer s H E).nox C (startR N (arg y)) (defBody st) (fnPost (.ok (res y)))) : FnOk P w K mg base CX0 (k + 1) f fd ps (spF K arg pre fun y => .ok (res y)) := by
 refine F.ok S (spF_len hl) fun cdv A outer s H vs Q E hr h => ?_
 obtain ⟨G, y, g, r, hp, q, _⟩ := h
 refine ⟨wpSs _ (defBody st), pss_wp, body cdv A outer s H E ⟨H, G, [], []⟩ hr y hp _ H _ (srel_start (ps := ps) g r) ⟨fun ρ σ H' h S' _ => ?_, fun ρ σ H' h => h.elim, fun ρ σ H' h => h.elim, fun t v H' h s rr => q t v H' h s rr, ⟨fun _ _ _ _ => False, takes0, fun n c ρ σ H' h => by cases h⟩⟩⟩
 exact q _ _ H' h S'.hh (.at .non)
theorem Cal.of_body {α : Type} {arg : α → List D} {pre : α → Prop} {res : α → Ret} {x qual : Str} {st : Stmt} {f : Addr} {fd : FuncData} {N ps : List Str} {k : Nat} (F : Fun K x qual st f fd) (hm : mg x = some (.ref f)) (hb : Binds K fd ps []) (S : FnScope N ps (defScope st)) (hl : ∀ y, (arg y).length = ps.length)
  (body : ∀ (cdv : Value) (A : Around) (outer : List Env) (s : Shared) (H : Hp) (E : XK) (C : Ctx), Room k (A.deeper (envOfC qual (defScope st) s.heap.objs.size f cdv)) → ∀ y, pre y →
   WP (cxOf CX0 P w K mg base N qual (defScope st) f cdv A outer s H E).nox C (startR N (arg y)) (defBody st) (fnPost (.ok (res y)))) : Cal P w K mg base (k + 1) x ps (spF K arg pre fun y => .ok (res y)) :=
 ⟨f, fd, CX0, hm, F.kp, hb, fn_of_body F S hl body, fun X _ _ => pass0⟩
theorem CalX.of_body {α : Type} {arg : α → List D} {pre : α → Prop} {res : α → Res} {x qual : Str} {st : Stmt} {f : Addr} {fd : FuncData} {N ps : List Str} {k : Nat} (F : Fun K x qual st f fd) (hm : mg x = some (.ref f)) (hb : Binds K fd ps []) (S : FnScope N ps (defScope st)) (hl : ∀ y, (arg y).length = ps.length)
  (body : ∀ (cdv : Value) (A : Around) (outer : List Env) (s : Shared) (H : Hp) (E : XK) (C : Ctx), Room k (A.deeper (envOfC qual (defScope st) s.heap.objs.size f cdv)) → ∀ y, pre y →
   WP (cxOf (L2.CX P w) P w K mg base N qual (defScope st) f cdv A outer s H E) C (startR N (arg y)) (defBody st) (fnPost (res y))) : CalX P w K mg base (k + 1) x ps (spF K arg pre res) := by
 refine ⟨f, fd, hm, F.kp, hb, F.okX S (spF_len hl) fun cdv A outer s H vs Q E hr h => ?_⟩
 obtain ⟨G, y, g, r, hp, q, qe⟩ := h
 refine ⟨wpSs _ (defBody st), pss_wp, body cdv A outer s H E ⟨H, G, [], []⟩ hr y hp _ H _ (srel_start (ps := ps) g r) ⟨fun ρ σ H' h S' _ => ?_, fun ρ σ H' h => h.elim, fun ρ σ H' h => h.elim, fun t v H' h s rr => q t v H' h s rr, ⟨fun cls d _ H => E cls d H, takes_of rfl rfl rfl rfl, fun n c ρ σ H' h k S' _ => qe n c H' h k S'.hh⟩⟩⟩
 exact q _ _ H' h S'.hh (.at .non)
end
end DL
namespace DL
open PySem PySem.Spec PyProof.Rows L2
structure At (K : PySem.W.Frag) (mg : Str → Option Value) (x : Str) (st : Stmt) (ps : List Str) : Prop where
 ex : ∃ f fd, Fun K x x st f fd ∧ mg x = some (.ref f) ∧ Binds K fd ps []
theorem at_mk {K : PySem.W.Frag} {h : Heap} {mg : Str → Option Value} {x : Str} {st : Stmt} {ps : List Str} {f : Addr} {oc : Value} {od an : Option Addr} {osl : Array (Option Value)} {kV doc pm cdv ct : Value} (X : K.In h) (G : h.Ns mainGlobals mg)
  (a : PySem.W.nsIn K mainGlobals x = some (some (.ref f))) (l : K.lookup f = some ⟨oc, od, .func (PySem.W.fnOf x x (defArgs st) (defBody st) (defScope st) .none kV doc pm an cdv ct), osl⟩) (c : PySem.W.codeIn K cdv x = true) (k : PySem.W.keepIn K (.ref f) = true)
  (b : ∀ (kV doc pm : Value) (an : Option Addr) (cdv ct : Value) (us : List Value), us.length = ps.length → bindArgs (PySem.W.fnOf x x (defArgs st) (defBody st) (defScope st) .none kV doc pm an cdv ct) ⟨us, []⟩ = pure (ps.zip us)) : At K mg x st ps :=
 ⟨f, _, fun_mk l c k, PySem.W.mg_of X G a, (fun_mk l c k).binds b⟩
theorem law_mk {K : PySem.W.Frag} {h : Heap} {mg : Str → Option Value} {x y : Str} {st : Stmt} {fa f : Addr} {oc : Value} {od an : Option Addr} {osl : Array (Option Value)} {kV doc pm cdv ct : Value} {P : Program} {w : World} {sp : Sp} {CX : CXT} {n : Nat} (X : K.In h) (G : h.Ns mainGlobals mg) (hfa : mg x = some (.ref fa))
  (a : PySem.W.nsIn K mainGlobals x = some (some (.ref f))) (l : K.lookup f = some ⟨oc, od, .func (PySem.W.fnOf x x (defArgs st) (defBody st) (defScope st) .none kV doc pm an cdv ct), osl⟩) (c : PySem.W.codeIn K cdv x = true) (k : PySem.W.keepIn K (.ref f) = true)
  (b : ∀ (kV doc pm : Value) (an : Option Addr) (cdv ct : Value) (u : Value), bindArgs (PySem.W.fnOf x x (defArgs st) (defBody st) (defScope st) .none kV doc pm an cdv ct) ⟨[u], []⟩ = pure [(y, u)])
  (H : ∀ (fd : FuncData), Fun K x x st f fd → ∀ base : Heap, FnOk P w K mg base CX n f fd [y] sp) :
  ∃ fd : FuncData, (∀ (s : Shared) (u : Value), BindsTo s fd ⟨[u], []⟩ [(y, u)]) ∧ ∀ base : Heap, K.In base → base.Ns mainGlobals mg → FnOk P w K mg base CX n fa fd [y] sp := by
 have e := hfa.symm.trans (PySem.W.mg_of X G a)
 cases e
 exact ⟨_, fun s u => .of_eq (b _ _ _ _ _ _ u), fun base _ _ => H _ (fun_mk l c k) base⟩
abbrev spLaw (K : PySem.W.Frag) : Sp := spF K (fun ns : List Int => [.lst (D.ints ns)]) (fun ns => ns.length ≤ 63 ∧ ∀ z ∈ ns, Sz 1048576 z) fun _ => .ok (.im (.bl true))
theorem law_asks {K : PySem.W.Frag} {H : Hp} {a : Addr} {ns : List Int} (hl : ns.length ≤ 63) (hb : ∀ z ∈ ns, Builtin.Int.intBits z ≤ 1048576) (hS : SqL K H a (ns.map V.int)) : spLaw K [.ref a] H (fun v _ => v = .bl true) fun _ _ _ => False :=
 ⟨H, ns, Same.refl _, .cons (.lst hS (Reps.of_ints ns)) .nil, ⟨hl, fun z hz => Sz.of_bits (hb z hz)⟩, fun r v H' e _ rr => by
  cases e
  cases rr
  rfl, fun n c H' e => by cases e⟩
theorem exc_mk {K : PySem.W.Frag} {h : Heap} {mg : Str → Option Value} {x : Str} {Cl : Addr} (X : K.In h) (G : h.Ns mainGlobals mg) (a : PySem.W.nsIn K mainGlobals x = some (some (.ref Cl))) (xF : PySem.W.excIn K Cl [.type "ValueError", .type "Exception", .type "BaseException", .type "object"] "ValueError.__new__" = true)
  (kF : PySem.W.keepIn K (.ref Cl) = true) (bF : PySem.W.subIn K (.ref Cl) (.type "BaseException") = some true) (tF : PySem.W.typeIn K (.ref Cl) = some (.type "type"))
  (hg : PySem.W.findIn K (.ref Cl) "__getattribute__" = some (some (.builtin "BaseException.__getattribute__"))) (hk : PySem.W.findIn K (.ref Cl) "__getattr__" = some none) (hd : PySem.W.hasDictIn K Cl = true) (ha : PySem.W.findIn K (.ref Cl) "__class__" = some (some (.builtin "object.__class__")))
  (hn : PySem.W.specialIn K (.builtin "object.__class__") "__get__" = some (some (.builtin "getset_descriptor.__get__"))) (ht : PySem.W.takesIn K (.builtin "object.__class__") = some true) (hm : PySem.W.mroIn K Cl (.type "object") = some true) : ExcT K mg x Cl :=
 ⟨PySem.W.mg_of X G a, by unfold clsOf; rw [a], xF, kF, bF, tF, ⟨hg, hk, bF, hd, ha, hn, ht, hm⟩⟩
theorem ints_atI {ns : List Int} {k : Int} (h0 : 0 ≤ k) (h : k < ns.length) : atI (D.ints ns) k = some (.int (ns.getD k.toNat 0)) := by
 have e : k = (k.toNat : Int) := by omega
 have hl : k.toNat < ns.length := by omega
 have q : (D.ints ns)[k.toNat]? = some (.int (ns.getD k.toNat 0)) := by
  rw [List.getElem?_map, List.getElem?_eq_getElem hl]
  simp [hl]
 have r := atI_nat q
 rw [← e] at r
 exact r
abbrev P3 := Int × Int × Int
def t3 (p : P3) : D := .tup [.int p.1, .int p.2.1, .int p.2.2]
def Sz3 (n : Nat) (p : P3) : Prop := Sz n p.1 ∧ Sz n p.2.1 ∧ Sz n p.2.2
theorem Sz3.mono {n m : Nat} {p : P3} (h : Sz3 n p) (l : n ≤ m) : Sz3 m p := ⟨h.1.mono l, h.2.1.mono l, h.2.2.mono l⟩
section
variable {X : Cx} {C : Ctx} {ρ : Rho} {a b c : Expr} {pos : Pos}
theorem eqb_int (i j : Int) : PyData.eqv (.int i) (.int j) = decide (i = j) := by rw [PyData.eqv]; exact Bool.beq_eq_decide_eq _ _
end
end DL
namespace DL
open PySem PySem.Spec PyProof.Rows L2
def EX (X : Cx) (C : Ctx) (ρ : Rho) (e : Expr) (n : Str) : Prop :=
 ∀ σ H, SRel X.K C H σ ρ → ∀ W : WX, Takes X W → (∀ c H', clsOf X.K n = some c → Same H H' → W (.ref c) none σ H') → ∀ Q : VK, wpE X e σ H Q
section
variable {X : Cx} {C : Ctx} {ρ : Rho} {P : Post} {e tg : Expr} {es : List Expr} {c : Str} {pos p : Pos} {α : Type} {arg : α → List D} {pre : α → Prop} {res : α → Res} {k : Nat} {x : Str} {ps : List Str}
theorem ex_call (y : α) (F : CalX X.prog X.w X.K X.mg X.base k x ps (spF X.K arg pre res)) (hr : Room k X.A) (ha : EA X C ρ (e :: es) (arg y)) (hp : pre y) (hd : res y = .er c) (hg : Gl X x := by rfl) (hdb : (x == ("__debug__" : Str)) = false := by decide)
  (he : starEach (e :: es) X.env = (false, eval e X.env) :: starEach es X.env := by rfl) (hpl : (backTo pos (starEach es X.env)).any (·.1) = false := by rfl) : EX X C ρ (.Call (.Name x p) (e :: es) [] pos) c := fun σ H S W tk hW Q pins s J => by
 obtain ⟨f, fd, hm, hk, hb, ok⟩ := F.ex
 refine wpAny_Call_Name_kw (ld_glob J hg hm ?_ hdb)
 have args := ha σ H S (fun vs H1 => spF X.K arg pre res vs H1 Q fun cls d H2 => W cls d σ H2) (fun vs H1 s1 r1 => ⟨vis C (ows ρ) H1, y, (S.same s1).visIn, r1, hp, (fun r v H2 q => nomatch hd.symm.trans q), fun n' c' H2 q k s2 => by
  rw [hd] at q
  cases q
  exact hW c' H2 k (s1.trans s2)⟩) pos pins s J
 refine PySem.W.callWith_K (h₀ := X.base) J.ok.mod.kin hk (thn args fun us s1 ⟨vs, H1, J1, rv, q⟩ => ⟨J1.kIn, ?_⟩) he hpl
 have hl : (us ++ []).length = ps.length := by rw [List.append_nil, ← rv.length]; exact ok.len _ _ _ _ q
 have rv' : Vals vs (us ++ []) := by rw [List.append_nil]; exact rv
 refine wpAny_call (codeAny_mono (ok.run X.A X.stack s1 H1 ⟨us, []⟩ (us ++ []) vs Q _ hr J1.env0 (hb s1 us J1.kIn hl) rv' q) fun t s' ht => ?_)
 cases t with
 | error z => exact tk _ _ (XE.of_call J1 (fun _ _ _ w => w) ht)
 | ok fl =>
  cases fl with
  | ret u => exact J1.after ht
  | next => exact ht.elim
  | brk => exact ht.elim
  | cont => exact ht.elim
theorem ex_drop (he : EX X C ρ e c) (h : P.er c ρ) (hs : swapsWith e none pos.line X.env = pure false := by rfl) : WS X C ρ (.Expr e pos) P := fun σ H D S L => by
 obtain ⟨W, tk, hW⟩ := L.tk
 exact wpS_of (ps_expr pe_wp hs) (he σ H S W tk (fun c' H1 k s1 => hW c c' ρ σ H1 h k (S.same s1) (vis_same s1)) _)
theorem ex_ret (he : EX X C ρ e c) (h : P.er c ρ) : WS X C ρ (.Return (some e) pos) P := fun σ H D S L => by
 obtain ⟨W, tk, hW⟩ := L.tk
 exact wpS_of (ps_ret pe_wp) (he σ H S W tk (fun c' H1 k s1 => hW c c' ρ σ H1 h k (S.same s1) (vis_same s1)) _)
theorem ex_set (i : Nat) {x : Str} {p' : Pos} (he : EX X C ρ e c) (h : P.er c ρ) (hN : X.N.Nodup) (hi : X.N[i]? = some x := by rfl) (hx : Loc X.env.scope x := by first | exact Or.inl rfl | exact Or.inr rfl) (hs : swapsWith e (some (.Name x p')) pos.line X.env = pure false := by rfl)
  (hf : X.fn x = true ∨ X.env.scope.names.lookup x = some .local := by first | exact .inl rfl | exact .inr rfl) : WS X C ρ (.Assign [.Name x p'] e pos) P := fun σ H D S L => by
 obtain ⟨W, tk, hW⟩ := L.tk
 exact wpS_of (ps_set hN hi hx pe_wp hs hf) (he σ H S W tk (fun c' H1 k s1 => hW c c' ρ σ H1 h k (S.same s1) (vis_same s1)) _)
theorem ex_asg {t : TG} (he : EX X C ρ e c) (hg : PG X tg t) (h : P.er c ρ) (hs : swapsWithSole [tg] e pos.line X.env = pure false := by rfl) (hw : swappedStores [tg] e X.env = pure none := by rfl) (h1 : (assignEach [tg] X.env).map (·.2) = [assign tg X.env] := by rfl) : WS X C ρ (.Assign [tg] e pos) P := fun σ H D S L => by
 obtain ⟨W, tk, hW⟩ := L.tk
 exact wpS_of (ps_asg pe_wp hg hs hw h1) (he σ H S W tk (fun c' H1 k s1 => hW c c' ρ σ H1 h k (S.same s1) (vis_same s1)) _)
end
theorem exF_ok {P : Program} {w : World} {H : Hp} {h : Heap} {a Cl : Addr} {oe : Obj} {vs : Array Value} (e : h.get? a = some oe) (z : Zc (.ref Cl) none oe) (d : oe.data = .fields vs) : ObjOk P w H h a (ExF Cl a) :=
 ⟨⟨oe, vs, e, z, d⟩, ⟨oe, e⟩, fun _ _ ⟨o, v, q, r⟩ k => ⟨o, v, k o q, r⟩⟩
section
variable {X : Cx} {C : Ctx} {ρ : Rho} {P : Post} {σ : L2.St} {H : Hp} {s : Shared}
theorem inv_caught {a Cl : Addr} {oe : Obj} {vs : Array Value} {pn pn' : List (Addr × Obj)} (J : Inv (X.suite a ((a, oe) :: pn)) [] σ H s) (hz : Zc (.ref Cl) none oe) (hd : oe.data = .fields vs) (na : H a = none) (n0 : X.s_0.heap.get? a = none) (hp : ∀ q ∈ pn', q ∈ pn ∧ q.1 ≠ a)
  (nl : a ≠ X.env.locals) (nc : ∀ x c, X.env.cells.lookup x = some c → c ≠ a) : Inv (X.suite a pn') [] σ (upd H a (ExF Cl a)) s := by
 have pa : s.heap.get? a = some oe := (J.pin (a, oe) (by simp)).1
 refine ⟨J.ok.mod |> fun _ => ⟨J.ok.mod, J.ok.kind, J.ok.glob, J.ok.blt, J.ok.above, J.ok.inj, J.ok.has, J.ok.cab, J.ok.hd, J.ok.frames, J.ok.stk, J.ok.exf, J.ok.bs, J.ok.bsz, J.ok.noex, J.ok.exfs, J.ok.funs, J.ok.frf⟩, J.os, J.bare, ?_, J.loc, J.cell, ?_, ?_, fun q hq => ?_, ?_, J.len⟩
 ·have u := J.base
  exact ⟨u.keep, u.slot, fun b o q n hx => by rw [upd_ne (fun z => by rw [z] at q; rw [show X.s_0.heap.get? a = some o from q] at n0; cases n0)]; exact u.free b o q n hx, u.there, fun b xs q => by rw [upd_ne (ne_of_none (u.tups b xs q) na)]; exact u.tups b xs q,
   fun b o v q => by rw [upd_ne (ne_of_none (u.frzs b o v q) na)]; exact u.frzs b o v q, fun b ts q => by
    obtain ⟨m, z⟩ := u.tbls b ts q
    exact ⟨m, by rw [upd_ne (ne_of_none z na)]; exact z⟩⟩
 ·rw [upd_ne (Ne.symm nl)]; exact J.free
 ·intro x c e
  rw [upd_ne (nc x c e)]
  exact J.freeC x c e
 ·obtain ⟨m, ne⟩ := hp q (by rw [List.append_nil] at hq; exact hq)
  obtain ⟨p1, p2, p3⟩ := J.pin q (by rw [List.append_nil]; exact List.mem_cons_of_mem _ m)
  exact ⟨p1, by rw [upd_ne ne]; exact p2, p3⟩
 ·exact J.hok.laidN (fun _ _ q => q) na (exF_ok pa hz hd)
theorem inv_left {a : Addr} {pn pn' : List (Addr × Obj)} (J : Inv (X.suite a (X.pn ++ pn)) pn' σ H s) (ok : X.Ok) : Inv X pn σ H s :=
 ⟨ok, J.os, J.bare, J.base, J.loc, J.cell, J.free, J.freeC, fun p hp => J.pin p (List.mem_append_left _ hp), J.hok, J.len⟩
def sPost (P : Post) (i : Nat) : Post := { nx := fun ρ => P.nx (ρ.set i .no), rt := P.rt, bk := fun ρ => P.bk (ρ.set i .no), ct := fun ρ => P.ct (ρ.set i .no), er := fun _ _ => False }
def tPost (X : Cx) (C : Ctx) (P : Post) (i : Nat) (c : Addr) (su : List Stmt) : Post := { P with er := fun n ρ => (∀ Cl, clsOf X.K n = some Cl → PySem.W.exmOne X.K (.ref Cl) (.ref c) = some true) ∧ ∀ (a : Addr) (pn : List (Addr × Obj)), WP (X.suite a pn) C (ρ.set i (.im (.exc n))) su (sPost P i) }
theorem ws_try (i : Nat) {x n : Str} {c : Addr} {body suite : List Stmt} {b₀ : Stmt} {np pos pos' : Pos} (hc : X.mg x = some (.ref c)) (hN : X.N.Nodup)
  (hb : ∀ (pn : List (Addr × Obj)) (xe : Value → Shared → Prop), PassesOwn (model X.prog X.w) X.A X.env xe → WP (X.tr pn xe) C ρ body (tPost X C P i c (b₀ :: suite)))
  (hs : X.stack = X.env :: X.outer := by rfl) (hex : X.ex = [] := by rfl) (hf : X.env.frame = some X.env.locals := by rfl) (hi : X.N[i]? = some n := by rfl) (hln : X.env.kindOf n = some .local := by rfl) (hg : Gl X x := by rfl) (hdb : (x == ("__debug__" : Str)) = false := by decide) :
  WS X C ρ (.Try body [.ExceptHandler (some (.Name x np)) (some n) (b₀ :: suite) pos'] [] [] pos) P := fun σ H D S L pins s J => by
 have ok := J.ok
 have fr : X.A.frames = some (X.env :: X.outer) := by rw [ok.frames, hs]
 refine wpAny_Try_except ?_
 let xe1 : Value → Shared → Prop := fun z t => wpAny (model X.prog X.w) X.A (noteFrame z X.env) (fun _ t2 => wpAny (model X.prog X.w) X.A (setFlight z none) (fun _ t3 => wpAny (model X.prog X.w) X.A (handleBy z X.env [.ExceptHandler (some (.Name x np)) (some n) (b₀ :: suite) pos']) (SP X pins D) X.xe t3) X.xe t2) X.xe t
 let W1 : WX := fun cls d σ' H' => ∃ nm Cl ρ', cls = .ref Cl ∧ d = none ∧ clsOf X.K nm = some Cl ∧ (tPost X C P i c (b₀ :: suite)).er nm ρ' ∧ SRel X.K C H' σ' ρ' ∧ Same (vis C (ows ρ) H) (vis C (ows ρ') H')
 have catches : Takes (X.tr (X.pn ++ pins) xe1) W1 := by
  intro u s' xx
  obtain ⟨a, B, sI, pins', σ', H', cls, d, rfl, J', nb, up, sky, na, os, ag, nm, Cl, ρ', rfl, rfl, hcl, ⟨hm0, hsu⟩, S', v'⟩ := xx
  have hm := hm0 Cl hcl
  have J1 : Inv X pins σ' H' sI := J'.ofTry ok
  have sky1 : Sky B (X.env :: X.outer) a (Zc (.ref Cl) none) X.env.locals s'.heap := by rw [← hs]; exact sky
  show wpAny (model X.prog X.w) X.A (noteFrame (.ref a) X.env) _ _ _
  refine Sky.land Zc.steady fr hf sky1 fun h3 f3 up3 => ?_
  have J3 : Inv X pins σ' H' { s' with heap := h3 } := J1.landed nb f3.1 (up.trans up3) os ag
  obtain ⟨oe3, vs3, e3, z3, d3⟩ := f3.there
  have bare : a ∉ frs (X.env :: X.outer) := fun hm => by
   obtain ⟨_, o', e', hnf⟩ := f3.2.2.1.mem hm
   rw [e3] at e'
   cases e'
   exact hnf _ d3
  have nL : a ≠ X.env.locals := fun z => bare (List.mem_filterMap.mpr ⟨X.env, List.mem_cons_self, by rw [hf, z]⟩)
  have nF : a ∉ X.fs := fun hm => by
   obtain ⟨e, he, q⟩ := List.mem_filterMap.mp hm
   exact bare (List.mem_filterMap.mpr ⟨e, List.mem_cons_of_mem _ he, q⟩)
  have nI : sI.heap.get? a = none := by
   cases q : sI.heap.get? a with
   | none => rfl
   | some o =>
    have z := nb a o q (by show a ∉ frs X.stack; rw [hs]; exact bare)
    rw [f3.2.1] at z
    cases z
  have n0 : X.s_0.heap.get? a = none := by
   cases q : X.s_0.heap.get? a with
   | none => rfl
   | some o =>
    obtain ⟨o', z⟩ := J1.base.there a o q (by
     intro hx
     rw [hex] at hx
     cases hx)
    rw [nI] at z
    cases z
  have nC : ∀ y c', X.env.cells.lookup y = some c' → c' ≠ a := fun y c' hy z => by
   obtain ⟨v, o, ho, hd⟩ := J1.cell y c' hy
   rw [z, nI] at ho
   cases ho
  have nP : ∀ q ∈ X.pn ++ pins, q.1 ≠ a := fun q hq z => by
   have := (J1.pin q hq).1
   rw [z, nI] at this
   cases this
  have S3 := J3.suite e3 d3 na nL nF
  refine wpAny_handleBy_cons (codeAny_handlers_test ?_) (by intro q; cases q)
  have lt : PySem.W.Looks (model X.prog X.w) h3 (typeOf (.ref a)) (.ref Cl) := fun A Q E t k q => wpAny_typeOf_ref (k _ _ e3) (by rw [z3.1]; exact q)
  have lm := PySem.W.exm_one (M := model X.prog X.w) (J3.kIn) lt hm
  refine ld_glob (X := X.suite a ((a, oe3) :: (X.pn ++ pins))) S3 hg hc (lm.here ?_) hdb
  refine codeAny_handlers_suite_as ?_
  refine HandSPX.lands_againZ f3 fun h4 f4 up4 => ?_
  have J4 : Inv X pins σ' H' { s' with heap := h4 } := J1.landed nb f4.1 ((up.trans up3).trans up4) os ag
  obtain ⟨oe4, vs4, e4, z4, d4⟩ := f4.there
  refine store_ok (X := X.suite a ((a, oe4) :: (X.pn ++ pins))) (v := .ref a) (J4.suite e4 d4 na nL nF) hN hi (.inl hln) rfl (fun s5 S5 => ?_) (.inr hln)
  have J5 := inv_caught (X := X) (pn' := X.pn ++ pins) S5 z4 d4 na n0 (fun q hq => ⟨hq, nP q hq⟩) nL nC
  have r5 : Rep X.K (vis C (ows ρ') (upd H' a (ExF Cl a))) (.ref a) (.exc nm) := .exc hcl (by
   obtain ⟨m0, mo, mh⟩ := S'.new na
   rw [vis_at m0 mo mh, upd_same])
  obtain ⟨S6, v6⟩ := (S'.same (same_upd na)).setIm i r5
  have v7 : Same (vis C (ows ρ) H) (vis C (ows (ρ'.set i (.im (.exc nm)))) (upd H' a (ExF Cl a))) := (v'.trans (vis_same (same_upd na))).trans v6
  have go := hsu a (X.pn ++ pins) (σ'.set i (some (.ref a))) (upd H' a (ExF Cl a)) { nx := fun σ2 H2 => D.nx (σ2.set i none) H2, rt := D.rt, bk := fun σ2 H2 => D.bk (σ2.set i none) H2, ct := fun σ2 H2 => D.ct (σ2.set i none) H2 } S6
   ⟨fun ρ2 σ2 H2 q T y => L.nx _ _ _ q (T.setNo i none).1 ((v7.trans y).trans (T.setNo i none).2), fun ρ2 σ2 H2 q T y => L.bk _ _ _ q (T.setNo i none).1 ((v7.trans y).trans (T.setNo i none).2), fun ρ2 σ2 H2 q T y => L.ct _ _ _ q (T.setNo i none).1 ((v7.trans y).trans (T.setNo i none).2),
    L.rt, ⟨fun _ _ _ _ => False, takes0, fun _ _ _ _ _ q => q.elim⟩⟩ [] s5 J5
  refine wpAny_mono go (fun f s6 h6 => ?_) fun _ _ z => z.elim
  have gone : ∀ {σ6 : L2.St} {H6 : Hp} {R : Shared → Prop}, Inv (X.suite a (X.pn ++ pins)) [] σ6 H6 s6 → (∀ s7, Inv X pins (σ6.set i none) H6 s7 → R s7) →
    wpAny (model X.prog X.w) X.A (do bindName X.env n .none; unbindBehindTheSuite X.env n pos') (fun _ s7 => R s7) X.xe s6 := fun {σ6 H6 R} T hq => gone_ok (inv_left T ok) hN hi hln hq
  cases f with
  | next => obtain ⟨σ6, H6, T, q6⟩ := h6; exact gone T fun s7 J7 => ⟨_, _, J7, q6⟩
  | brk => obtain ⟨σ6, H6, T, q6⟩ := h6; exact gone T fun s7 J7 => ⟨_, _, J7, q6⟩
  | cont => obtain ⟨σ6, H6, T, q6⟩ := h6; exact gone T fun s7 J7 => ⟨_, _, J7, q6⟩
  | ret u => obtain ⟨v6, σ6, H6, T, r6, q6⟩ := h6; exact gone T fun s7 J7 => ⟨_, _, _, J7, r6, q6⟩
 refine wpAny_mono (hb (X.pn ++ pins) xe1 PassesOwn.looking σ H D S ⟨L.nx, L.bk, L.ct, L.rt, ⟨W1, catches, fun nm Cl ρ' σ' H' q k T y => ⟨nm, Cl, ρ', rfl, rfl, k, q, T, y⟩⟩⟩ [] s (J.toTry _)) (fun f s1 hsp => ?_) (fun z s1 he => he)
 cases f with
 | next => obtain ⟨σ', H', J', q⟩ := hsp; exact wpAny_execs_nil ⟨σ', H', J'.ofTry ok, q⟩
 | brk => obtain ⟨σ', H', J', q⟩ := hsp; exact ⟨σ', H', J'.ofTry ok, q⟩
 | cont => obtain ⟨σ', H', J', q⟩ := hsp; exact ⟨σ', H', J'.ofTry ok, q⟩
 | ret u => obtain ⟨v, σ', H', J', r, q⟩ := hsp; exact ⟨v, σ', H', J'.ofTry ok, r, q⟩
end
end DL
namespace DL
open PySem PySem.Spec PyProof.Rows L2
theorem kit_own {K : PySem.W.Frag} {mg : Str → Option Value} {x : Str} {A B : Addr} {r : Bool} (E : ExcT K mg x B) (hs : PySem.W.subIn K (.ref B) (.ref B) = some true) (h : PySem.W.subIn K (.ref A) (.ref B) = some r) : PySem.W.kitOne K (.ref A) (.ref B) = some r := by
 unfold PySem.W.kitOne
 split
 ·rename_i q
  have e := eq_of_beq q
  cases e
  rw [hs] at h
  exact h
 ·have m := PySem.W.exm_ref (cls := .ref A) E.bF E.ec.hd E.tF h
  unfold PySem.W.exmOne at m
  split at m
  ·exact m
  ·cases m
theorem kit_ve {K : PySem.W.Frag} {A : Addr} {r : Bool} (h : PySem.W.subIn K (.ref A) (.type "ValueError") = some r) : PySem.W.kitOne K (.ref A) (.type "ValueError") = some r := by
 unfold PySem.W.kitOne
 rw [if_neg (by simp)]
 unfold PySem.W.kitCls
 dsimp only
 rw [if_pos (by decide +kernel)]
 exact h
theorem exm_own {K : PySem.W.Frag} {mg : Str → Option Value} {x : Str} {A B : Addr} {r : Bool} (E : ExcT K mg x B) (h : PySem.W.subIn K (.ref A) (.ref B) = some r) : PySem.W.exmOne K (.ref A) (.ref B) = some r := PySem.W.exm_ref E.bF E.ec.hd E.tF h
theorem EI.eq {X : Cx} {C : Ctx} {ρ : Rho} {tg iter : Expr} {ds es : List D} (h : EI X C ρ tg iter ds) (q : ds = es) : EI X C ρ tg iter es := q ▸ h
end DL
namespace DL
open PySem PySem.Spec PyProof.Rows L2
section
variable {X : Cx} {C : Ctx} {ρ ρ' : Rho} {P : Post} {e a b : Expr} {es : List Expr} {d da db : D} {ds es' : List D} {pos p : Pos}
theorem reps_fresh {H : Hp} {σ : L2.St} (S : SRel X.K C H σ ρ) {z : Addr} {o : HO} (nz : H z = none) {vs : List V} {ds : List D} (r : Reps X.K (vis C (ows ρ) H) vs ds) : Reps X.K (vis C (z :: ows ρ) (upd H z o)) vs ds := Reps.mono (vis_new_same S.visIn nz (same_upd nz)) _ r
def rCatL (K : PySem.W.Frag) : R2 := fun x y H Q => ∃ l b xs zs, x = .ref l ∧ y = .ref b ∧ SqL K H l xs ∧ SqL K H b zs ∧ xs.length + zs.length ≤ sizeLine ∧ ∀ p, H p = none → Q (.ref p) (upd H p (.lst (xs ++ zs)))
theorem op_catL : OpR X (binaryOp .Add) (rCatL X.K) := by
 intro pins s σ H x y v u Q J rx ry h
 obtain ⟨l, b, xs, zs, rfl, rfl, hl, hb, hz, q⟩ := h
 cases rx
 cases ry
 obtain ⟨as, r, ⟨⟨_, d1, _, s1⟩, n, e, c1, c2, c3⟩, _⟩ := J.list hl
 obtain ⟨bs, r2, ⟨⟨_, d2, _, s2⟩, n2, e2, c4, c5, c6⟩, _⟩ := J.list hb
 simp only at c1 c3 c4 c6
 subst c1 c3 c4 c6
 have l1 := r.length
 have l2 := r2.length
 refine concat_meets ⟨_, e, rfl⟩ ⟨_, e2, rfl⟩ noFill_list_add seq_list_add PySem.F.slot_list_add PySem.F.entry_list_add (PySem.F.args_list_add_2 _ _) (list_addW l b as.toArray bs.toArray n n2 d1 d2 s1 s2 (by rw [List.size_toArray, List.size_toArray]; omega)) ⟨e, e2, ?_⟩
 rw [show as.toArray ++ bs.toArray = (as ++ bs).toArray by simp]
 exact ⟨.ref _, _, J.lnew (t' := s.toks) (r.append r2) (by rw [List.length_append]; omega), rfl, q _ J.fresh⟩
theorem ef_cat (ha : EL X C ρ a ds) (hb : EL X C ρ b es') (hz : ds.length + es'.length ≤ sizeLine) : EF X C ρ (.BinOp a .Add b pos) (ds ++ es') := fun σ H S Q q =>
 wpE_of (pe_op op_catL pe_wp pe_wp) (ha σ H S _ fun l xs H1 s1 sq r1 => hb σ H1 (S.same s1) _ fun m zs H2 s2 sq2 r2 => ⟨l, m, xs, zs, rfl, rfl, s2.seq sq, sq2, by rw [r1.length, r2.length]; exact hz, fun z nz =>
  q z _ _ ((s1.trans s2).free nz) ((s1.trans s2).trans (same_upd nz)) upd_same (reps_fresh ((S.same s1).same s2) nz ((Reps.mono (vis_same s2) _ r1).append r2))⟩)
theorem ints_ok : ∀ l : List Int, D.pysOk (D.ints l) = true ∧ D.deps (D.ints l) = 0
 | [] => ⟨rfl, rfl⟩
 | i :: l => by
  obtain ⟨h1, h2⟩ := ints_ok l
  refine ⟨?_, ?_⟩
  ·show (D.pyOk (.int i) && D.pysOk (D.ints l)) = true
   rw [h1]; rfl
  ·show max (D.dep (.int i)) (D.deps (D.ints l)) = 0
   rw [h2]; rfl
theorem good_ints (l : List Int) : (D.lst (D.ints l)).Good := ⟨(ints_ok l).1, by show D.deps (D.ints l) + 1 ≤ 64; rw [(ints_ok l).2]; decide⟩
theorem good_int (i : Int) : (D.int i).Good := ⟨rfl, Nat.zero_le _⟩
theorem any_ints (i : Int) (l : List Int) : ((D.ints l).any fun z => D.eqb z (.int i)) = decide (i ∈ l) := by
 induction l with
 | nil => rfl
 | cons j l ih =>
  show (D.eqb (.int j) (.int i) || (D.ints l).any fun z => D.eqb z (.int i)) = _
  rw [ih, show D.eqb (.int j) (.int i) = decide (j = i) from eqb_int j i]
  simp [List.mem_cons, eq_comm]
end
end DL
namespace DL
open PySem PySem.Spec PyProof.Rows L2
structure CalN (P : Program) (w : World) (K : PySem.W.Frag) (mg : Str → Option Value) (base : Heap) (k : Nat) (x : Str) (ps : List Str) (z : Str) (sp : Sp) : Prop where
 ex : ∃ (f : Addr) (fd : FuncData), mg x = some (.ref f) ∧ PySem.W.keepIn K (.ref f) = true ∧ Binds K fd ps [] ∧ Binds K fd ps [.none] ∧ KBn K fd ps (ps.length - 1) [z] (fun us ws => us ++ ws) (fun vs zs => vs ++ zs) ∧ FnOk P w K mg base (L2.CX P w) k f fd ps sp
section
variable {P : Program} {w : World} {K : PySem.W.Frag} {mg : Str → Option Value} {base : Heap}
theorem CalN.x {k : Nat} {x z : Str} {ps : List Str} {sp : Sp} (h : CalN P w K mg base k x ps z sp) : CalX P w K mg base k x ps sp :=
 let ⟨f, fd, h1, h2, h3, _, _, h6⟩ := h.ex
 ⟨f, fd, h1, h2, h3, h6⟩
theorem CalN.cal {k : Nat} {x z : Str} {ps : List Str} {sp : Sp} (h : CalN P w K mg base k x ps z sp) : Cal P w K mg base k x ps sp := h.x.cal
theorem CalN.of_body {α : Type} {arg : α → List D} {pre : α → Prop} {res : α → Res} {x z : Str} {st : Stmt} {f : Addr} {fd : FuncData} {N ps : List Str} {k : Nat} (F : FunD K x x (defArgs st) (defBody st) (defScope st) [.non] [] f fd) (hm : mg x = some (.ref f)) (hb : Binds K fd ps []) (hb0 : Binds K fd ps [.none])
  (hbk : KBn K fd ps (ps.length - 1) [z] (fun us ws => us ++ ws) fun vs zs => vs ++ zs) (S : FnScope N ps (defScope st)) (hl : ∀ y, (arg y).length = ps.length)
  (body : ∀ (cdv : Value) (A : Around) (outer : List Env) (s : Shared) (H : Hp) (E : XK) (C : Ctx), Room k (A.deeper (envOfC x (defScope st) s.heap.objs.size f cdv)) → ∀ y, pre y →
   WP (cxOf (L2.CX P w) P w K mg base N x (defScope st) f cdv A outer s H E) C (startR N (arg y)) (defBody st) (fnPost (res y))) : CalN P w K mg base (k + 1) x ps z (spF K arg pre res) := by
 refine ⟨f, fd, hm, F.kp, hb, hb0, hbk, F.ok S (spF_len hl) fun cdv A outer s H vs Q E hr h => ?_⟩
 obtain ⟨G, y, g, r, hp, q, qe⟩ := h
 refine ⟨wpSs _ (defBody st), pss_wp, body cdv A outer s H E ⟨H, G, [], []⟩ hr y hp _ H _ (srel_start (ps := ps) g r) ⟨fun ρ σ H' h S' _ => ?_, fun ρ σ H' h => h.elim, fun ρ σ H' h => h.elim, fun t v H' h s rr => q t v H' h s rr, ⟨fun cls d _ H => E cls d H, takes_of rfl rfl rfl rfl, fun n c ρ σ H' h k S' _ => qe n c H' h k S'.hh⟩⟩⟩
 exact q _ _ H' h S'.hh (.at .non)
end
end DL
namespace DL
open PySem PySem.Spec PyProof.Rows L2
section
variable {X : Cx} {C : Ctx} {ρ ρ' : Rho} {P : Post} {e tg : Expr} {es : List Expr} {pos p py : Pos} {α : Type} {arg : α → List D} {pre : α → Prop} {post : α → Ret → Prop} {k : Nat} {x z : Str} {ps : List Str}
theorem ec_neL {a b : Expr} {ds es' : List D} (hu : X.A.units + 64 < cLine) (ha : EL X C ρ a ds) (hb : EL X C ρ b es') (ga : (D.lst ds).Good) (gb : (D.lst es').Good) : EC X C ρ .NotEq a b (.bl (!D.eqb (.lst ds) (.lst es'))) := fun σ H S Q q pins s J => by
 refine binT pe_wp pe_wp J (R := fun v u H2 => ∃ d e, Dp X.K H2 v d ∧ Dp X.K H2 u e ∧ SeqAt.shaped d = true ∧ SeqAt.shaped e = true ∧ Q (.bl (!PyData.eqv d e)) H2) (ha σ H S _ fun l xs H1 s1 sq r1 => hb σ H1 (S.same s1) _ fun m zs H2 s2 sq2 r2 => ?_) fun v u s2 x y H2 J2 rx ry q2 => op_neD hu pins s2 σ H2 x y v u Q J2 rx ry q2
 have S2 := (S.same s1).same s2
 exact ⟨_, _, .lst (s2.seq sq) (D.dps ds ga.1 (Reps.mono S2.visIn _ (Reps.mono (vis_same s2) _ r1))), .lst sq2 (D.dps es' gb.1 (Reps.mono S2.visIn _ r2)), ga.shaped, gb.shaped, q H2 (s1.trans s2)⟩
theorem ec_eqL {a b : Expr} {ds es' : List D} (hu : X.A.units + 64 < cLine) (ha : EL X C ρ a ds) (hb : EL X C ρ b es') (ga : (D.lst ds).Good) (gb : (D.lst es').Good) : EC X C ρ .Eq a b (.bl (D.eqb (.lst ds) (.lst es'))) := fun σ H S Q q pins s J => by
 refine binT pe_wp pe_wp J (R := fun v u H2 => ∃ d e, Dp X.K H2 v d ∧ Dp X.K H2 u e ∧ SeqAt.shaped d = true ∧ SeqAt.shaped e = true ∧ Q (.bl (PyData.eqv d e)) H2) (ha σ H S _ fun l xs H1 s1 sq r1 => hb σ H1 (S.same s1) _ fun m zs H2 s2 sq2 r2 => ?_) fun v u s2 x y H2 J2 rx ry q2 => op_eqD hu pins s2 σ H2 x y v u Q J2 rx ry q2
 have S2 := (S.same s1).same s2
 exact ⟨_, _, .lst (s2.seq sq) (D.dps ds ga.1 (Reps.mono S2.visIn _ (Reps.mono (vis_same s2) _ r1))), .lst sq2 (D.dps es' gb.1 (Reps.mono S2.visIn _ r2)), ga.shaped, gb.shaped, q H2 (s1.trans s2)⟩
end
end DL
namespace DL
open PySem PySem.Spec PyProof.Rows L2
section
variable {X : Cx} {C : Ctx} {ρ ρJ : Rho} {P : Post} {st : Stmt} {sts : List Stmt} {e : Expr}
theorem WS.imp {P' : Post} (h : WS X C ρ st P) (n : ∀ ρ, P.nx ρ → P'.nx ρ) (r : ∀ x, P.rt x → P'.rt x) (b : ∀ ρ, P.bk ρ → P'.bk ρ) (c : ∀ ρ, P.ct ρ → P'.ct ρ) (e : ∀ x ρ, P.er x ρ → P'.er x ρ) : WS X C ρ st P' := fun σ H D S L =>
 h σ H D S ⟨fun ρ σ H q => L.nx ρ σ H (n _ q), fun ρ σ H q => L.bk ρ σ H (b _ q), fun ρ σ H q => L.ct ρ σ H (c _ q), fun x v H q => L.rt x v H (r _ q), by
  obtain ⟨W, h1, h2⟩ := L.tk
  exact ⟨W, h1, fun x c ρ σ H q => h2 x c ρ σ H (e _ _ q)⟩⟩
end
abbrev P4 := Int × Int × Int × Int
def q4 (p : P4) : D := .tup [.int p.1, .int p.2.1, .int p.2.2.1, .int p.2.2.2]
abbrev D.quads (l : List P4) : List D := l.map q4
section
variable {X : Cx} {C : Ctx} {ρ : Rho} {e : Expr} {pos : Pos}
def minI : List Int → Int
 | [] => 0
 | a :: l => l.foldl min a
def maxI : List Int → Int
 | [] => 0
 | a :: l => l.foldl max a
end
end DL
namespace DL
open PySem PySem.Spec PyProof.Rows L2
def cutL {α : Type} (xs : List α) (lo hi : Option Int) : List α := (xs.drop (HT.sIx xs.length 0 lo)).take (HT.sIx xs.length xs.length hi - HT.sIx xs.length 0 lo)
theorem cut_map {α : Type} (f : α → D) (l : List α) (lo hi : Option Int) : cutD (l.map f) lo hi = (cutL l lo hi).map f := by
 unfold cutD cutL
 rw [List.length_map, List.map_take, List.map_drop]
end DL
namespace DL
open PySem PySem.Spec PyProof.Rows L2
section
variable {X : Cx} {C : Ctx} {ρ : Rho} {e a b c tg : Expr} {es : List Expr} {d : D} {ds : List D} {pos p : Pos}
theorem ee_ixS {z : Str} {i : Int} {ch : Nat} (ha : EE X C ρ a (.str z)) (hb : EE X C ρ b (.int i)) (h : atI z.cps.toList i = some ch) (hz : z.length ≤ sizeLine) (hp : PlainIx b := by intro _ _; rfl) : EE X C ρ (.Subscript a b pos) (.str ⟨#[ch]⟩) := fun σ H S Q q =>
 wpE_of (pe_ix ix_str pe_wp pe_wp hp) (ha σ H S _ fun v H1 s1 r1 => hb σ H1 (S.same s1) _ fun u H2 s2 r2 => by
  cases r1
  cases r2
  exact ⟨z, i, ch, rfl, rfl, hz, h, q _ H2 (s1.trans s2) (.at _)⟩)
theorem ee_sliceS {z : Str} {lo hi : Option Expr} {l u : Option Int} {p2 : Pos} (ha : EE X C ρ a (.str z)) (hl : EO X C ρ lo l) (hu : EO X C ρ hi u) (hz : z.length ≤ sizeLine) : EE X C ρ (.Subscript a (.Slice lo hi none p2) pos) (.str (cutS z l u)) := fun σ H S Q q =>
 wpE_of (pe_slice sl_str pe_wp po_wp po_wp) (ha σ H S _ fun v H1 s1 r1 => hl σ H1 (S.same s1) _ fun H2 s2 => hu σ H2 ((S.same s1).same s2) _ fun H3 s3 => by
  cases r1
  exact ⟨z, rfl, hz, q _ H3 ((s1.trans s2).trans s3) (.at _)⟩)
theorem ee_lenS {z : Str} (hm : X.mg "len" = none) (ha : EE X C ρ e (.str z)) (hz : z.length ≤ sizeLine) (hg : Gl X "len" := by rfl) (he : starEach [e] X.env = (false, eval e X.env) :: starEach [] X.env := by rfl) : EE X C ρ (.Call (.Name "len" p) [e] [] pos) (.int z.length) :=
 ee_callB call_len_str (eal_cons ha eal_nil he) (fun σ H vs S r Q q => by
  obtain ⟨v, rfl, r1⟩ := r.one
  cases r1
  exact ⟨z, rfl, hz, q _ H (Same.refl H) (.at _)⟩) hm (by decide +kernel) hg (by decide) (by decide) he rfl
theorem ee_strI {i : Int} (hm : X.mg "str" = none) (ha : EE X C ρ e (.int i)) (hz : i.natAbs.log2 < 1920) (hg : Gl X "str" := by rfl) (he : starEach [e] X.env = (false, eval e X.env) :: starEach [] X.env := by rfl) : EE X C ρ (.Call (.Name "str" p) [e] [] pos) (.str (Str.ofString (toString i))) :=
 ee_callTy call_str_int (eal_cons ha eal_nil he) (fun σ H vs S r Q q => by
  obtain ⟨v, rfl, r1⟩ := r.one
  cases r1
  exact ⟨i, rfl, hz, q _ H (Same.refl H) (.at _)⟩) hm (by decide +kernel) hg (by decide) (by decide) he rfl
theorem ee_intS {z : Str} {n : Int} (hm : X.mg "int" = none) (ha : EE X C ρ e (.str z)) (hn : PySem.intText? z = some n) (hz : z.length ≤ 640) (hg : Gl X "int" := by rfl) (he : starEach [e] X.env = (false, eval e X.env) :: starEach [] X.env := by rfl) : EE X C ρ (.Call (.Name "int" p) [e] [] pos) (.int n) :=
 ee_callTy call_int_str (eal_cons ha eal_nil he) (fun σ H vs S r Q q => by
  obtain ⟨v, rfl, r1⟩ := r.one
  cases r1
  exact ⟨z, n, rfl, hn, hz, q _ H (Same.refl H) (.at _)⟩) hm (by decide +kernel) hg (by decide) (by decide) he rfl
def signsD (z : Str) : List D := z.cps.toList.map fun c => D.str ⟨#[c]⟩
theorem yl_str {K : PySem.W.Frag} {V0 : Hp} {z : Str} : Yl K V0 (Its z) (signsD z) where
 go := fun C o H i l hi => by show i < z.cps.size; simpa [signsD] using hi
 yl := fun C o H i x H' l hi y => by
  obtain ⟨rfl, c, h1, rfl⟩ := y
  refine ⟨.str ⟨#[c]⟩, ?_, Same.refl _, .at _⟩
  unfold signsD
  rw [List.getElem?_map, Array.getElem?_toList, h1]
  rfl
 stop := fun C o H l => by show z.cps.size ≤ (signsD z).length; simp [signsD]
theorem ei_str {z : Str} (h : EE X C ρ e (.str z)) : EI X C ρ tg e (signsD z) := fun σ H S R q => wpI_of (pi_str pe_wp) (h σ H S _ fun v H1 s1 r1 => by
 cases r1
 exact ⟨z, rfl, q _ H1 s1 yl_str⟩)
theorem ee_m1 {id : String} {name : Str} {apos : Pos} {r : V → List V → Hp → VK → Prop} {x y : Str} (slot : Slot "str" name id) (ty : typeOf (.builtin id) = pure (.type "method_descriptor")) (rule : MtR X id r) (ha : EE X C ρ a (.str x)) (hb : EE X C ρ b (.str y))
  (hr : ∀ σ H, SRel X.K C H σ ρ → ∀ Q : VK, (∀ v H', Same H H' → Rep X.K (vis C (ows ρ) H') v d → Q v H') → r (.str x) [.str y] H Q)
  (hs : starEach [b] X.env = [(false, eval b X.env)] := by rfl) (hbase : attributeBase a name X.env (eval a X.env) = eval a X.env := by rfl) (hline : (apos.endLine == pos.line) = true := by rfl) : EE X C ρ (.Call (.Attribute a name apos) [b] [] pos) d := fun σ H S Q q =>
 wpE_of (pe_m1 slot ty rule pe_wp pe_wp hs hbase hline) (ha σ H S _ fun v H1 s1 r1 => by
  cases r1
  exact ⟨⟨x, rfl⟩, hb σ H1 (S.same s1) _ fun u H2 s2 r2 => by
   cases r2
   exact hr σ H2 ((S.same s1).same s2) Q fun v H3 s3 r3 => q v H3 ((s1.trans s2).trans s3) r3⟩)
theorem ee_startswith {x y : Str} {apos : Pos} (ha : EE X C ρ a (.str x)) (hb : EE X C ρ b (.str y)) (hs : starEach [b] X.env = [(false, eval b X.env)] := by rfl) (hbase : attributeBase a "startswith" X.env (eval a X.env) = eval a X.env := by rfl) (hline : (apos.endLine == pos.line) = true := by rfl) : EE X C ρ (.Call (.Attribute a "startswith" apos) [b] [] pos) (.bl (Txt.startswith x y)) :=
 ee_m1 PySem.F.slot_str_startswith PySem.F.type_str_startswith mt_startswith ha hb (fun σ H S Q q => ⟨x, y, rfl, rfl, q _ H (Same.refl H) (.at _)⟩) hs hbase hline
theorem ee_index {x y : Str} {i : Nat} {rest : List Nat} {apos : Pos} (ha : EE X C ρ a (.str x)) (hb : EE X C ρ b (.str y)) (ho : Builtin.Str.occurrences x y 0 x.length 1 = i :: rest) (hs : starEach [b] X.env = [(false, eval b X.env)] := by rfl) (hbase : attributeBase a "index" X.env (eval a X.env) = eval a X.env := by rfl) (hline : (apos.endLine == pos.line) = true := by rfl) : EE X C ρ (.Call (.Attribute a "index" apos) [b] [] pos) (.int (i : Nat)) :=
 ee_m1 PySem.F.slot_str_index PySem.F.type_str_index mt_sindex ha hb (fun σ H S Q q => ⟨x, y, i, rest, rfl, rfl, ho, q _ H (Same.refl H) (.at _)⟩) hs hbase hline
theorem ee_partition {x y : Str} {apos : Pos} (ha : EE X C ρ a (.str x)) (hb : EE X C ρ b (.str y)) (hy : (y.length == 0) = false) (hz : x.length ≤ sizeLine) (hs : starEach [b] X.env = [(false, eval b X.env)] := by rfl) (hbase : attributeBase a "partition" X.env (eval a X.env) = eval a X.env := by rfl) (hline : (apos.endLine == pos.line) = true := by rfl) :
  EE X C ρ (.Call (.Attribute a "partition" apos) [b] [] pos) (.tup [.str (Txt.partition x y).1, .str (Txt.partition x y).2.1, .str (Txt.partition x y).2.2]) :=
 ee_m1 PySem.F.slot_str_partition PySem.F.type_str_partition mt_partition ha hb (fun σ H S Q q => ⟨x, y, rfl, rfl, hy, hz, fun z nz => by
  have S1 := S
  refine q _ _ (same_upd nz) ?_
  rw [S1.visNew nz]
  exact .tup upd_same (.cons (.at _) (.cons (.at _) (.cons (.at _) .nil)))⟩) hs hbase hline
theorem ec_inS {ch : Nat} {z : Str} (ha : EE X C ρ a (.str ⟨#[ch]⟩)) (hb : EE X C ρ b (.str z)) : EC X C ρ .In a b (.bl (decide (ch ∈ z.cps.toList))) ∧ EC X C ρ .NotIn a b (.bl (!decide (ch ∈ z.cps.toList))) :=
 ⟨ec_op op_in_sign ha hb fun H Q q => ⟨ch, z, rfl, rfl, q⟩, ec_op op_notIn_sign ha hb fun H Q q => ⟨ch, z, rfl, rfl, q⟩⟩
theorem inV_strs (x : Str) : ∀ ns : List Str, inV (.str x) (ns.map V.str) = decide (x ∈ ns)
 | [] => rfl
 | n :: ns => by
  show (eqV (.str n) (.str x) || inV (.str x) (ns.map V.str)) = _
  rw [inV_strs x ns, show eqV (.str n) (.str x) = (n == x) from rfl]
  by_cases e : x = n
  ·subst e; simp
  ·have e' : ¬ n = x := fun z => e z.symm
   simp [e, e']
theorem flat_strs' : ∀ ns : List Str, (ns.map V.str).all flatV = true
 | [] => rfl
 | n :: ns => by rw [List.map_cons, List.all_cons, flat_strs' ns]; rfl
theorem reps_strs {K : PySem.W.Frag} {H : Hp} {ns : List Str} {vs : List V} (h : Reps K H vs (ns.map D.str)) : vs = ns.map V.str := by
 have e : ns.map D.str = (ns.map V.str).map D.at := by rw [List.map_map]; rfl
 rw [e] at h
 exact h.ats
theorem ec_inTS {x : Str} {ns : List Str} (ha : EE X C ρ a (.str x)) (hb : EE X C ρ b (.tup (ns.map D.str))) : EC X C ρ .In a b (.bl (decide (x ∈ ns))) ∧ EC X C ρ .NotIn a b (.bl (!decide (x ∈ ns))) :=
 ⟨ec_opD op_in_seq ha hb fun σ H v u S r1 r2 Q q => by
  cases r1
  cases r2 with
  | tup sq rs =>
   have e1 := reps_strs rs
   subst e1
   refine ⟨_, _, rfl, .inr (Same.seqT S.visIn (tq sq)), rfl, flat_strs' ns, ?_⟩
   rw [if_neg Bool.false_ne_true, inV_strs]
   exact q H (Same.refl H),
 ec_opD op_notIn_seq ha hb fun σ H v u S r1 r2 Q q => by
  cases r1
  cases r2 with
  | tup sq rs =>
   have e1 := reps_strs rs
   subst e1
   refine ⟨_, _, rfl, .inr (Same.seqT S.visIn (tq sq)), rfl, flat_strs' ns, ?_⟩
   rw [if_pos rfl, inV_strs]
   exact q H (Same.refl H)⟩
end
end DL
namespace DL
open PySem PySem.Spec PyProof.Rows L2
def plainE : Expr → Bool
 | .Starred _ _ => false
 | _ => true
theorem se_of {e : Expr} {es : List Expr} {env : Env} (h : plainE e = true) : starEach (e :: es) env = (false, eval e env) :: starEach es env := by
 cases e <;> first | rfl | cases h
theorem room65 {k : Nat} {A : Around} (r : Room k A) : A.units + 65 < cLine := by have := r.un; omega
inductive R (α : Type) where
 | ok (a : α)
 | er (n : Str)
 | bad
inductive RV where
 | im (d : D)
 | fr (ds : List D)
 | ro (ds : List D)
inductive Sl where
 | no
 | im (d : D)
 | ow (ds : List D)
 | od (kvs : List (List Key × D))
 | ot (d : D)
 | og (k : GK) (ds : List D)
abbrev Fr := List Sl
def En.sl : En → Sl
 | .no => .no
 | .im d => .im d
 | .ow _ ds => .ow ds
 | .od _ k => .od k
 | .ot _ d => .ot d
 | .og _ k ds => .og k ds
def frOf (ρ : Rho) : Fr := ρ.map En.sl
def nthS : Fr → Nat → Sl
 | [], _ => .no
 | s :: _, 0 => s
 | _ :: E, n + 1 => nthS E n
def setS : Fr → Nat → Sl → Fr
 | [], _, _ => []
 | _ :: E, 0, x => x :: E
 | s :: E, n + 1, x => s :: setS E n x
theorem setS_eq : ∀ (E : Fr) (n : Nat) (x : Sl), setS E n x = E.set n x
 | [], _, _ => rfl
 | _ :: _, 0, _ => rfl
 | _ :: E, n + 1, x => by rw [setS, List.set_cons_succ, setS_eq E n x]
theorem nthS_eq : ∀ (E : Fr) (n : Nat), nthS E n = E[n]?.getD .no
 | [], _ => by simp [nthS]
 | _ :: _, 0 => by simp [nthS]
 | _ :: E, n + 1 => by rw [nthS, nthS_eq E n]; simp
theorem frOf_set (ρ : Rho) (i : Nat) (e : En) : frOf (ρ.set i e) = setS (frOf ρ) i e.sl := by rw [setS_eq]; unfold frOf; rw [List.map_set]
theorem frOf_nth {ρ : Rho} {i : Nat} : nthS (frOf ρ) i = (ρ[i]?.map En.sl).getD .no := by rw [nthS_eq]; unfold frOf; rw [List.getElem?_map]
theorem nth_im {ρ : Rho} {i : Nat} {d : D} (h : nthS (frOf ρ) i = .im d) : ρ[i]? = some (.im d) := by
 rw [frOf_nth] at h
 cases e : ρ[i]? with
 | none => rw [e] at h; cases h
 | some x => rw [e] at h; cases x <;> first | (cases h; rfl) | cases h
theorem nth_ow {ρ : Rho} {i : Nat} {ds : List D} (h : nthS (frOf ρ) i = .ow ds) : ∃ a, ρ[i]? = some (.ow a ds) := by
 rw [frOf_nth] at h
 cases e : ρ[i]? with
 | none => rw [e] at h; cases h
 | some x => rw [e] at h; cases x <;> first | (cases h; exact ⟨_, rfl⟩) | cases h
abbrev MX := Fr → R RV
def OKV (X : Cx) (C : Ctx) (ρ : Rho) (e : Expr) : R RV → Prop
 | .ok (.im d) => EE X C ρ e d
 | .ok (.fr ds) => EF X C ρ e ds
 | .ok (.ro ds) => EL X C ρ e ds
 | .er n => EX X C ρ e n
 | .bad => True
structure EM (X : Cx) (e : Expr) (m : MX) : Prop where
 run : ∀ C ρ, OKV X C ρ e (m (frOf ρ))
instance {X : Cx} {e : Expr} {m : MX} : CoeFun (EM X e m) fun _ => ∀ C ρ, OKV X C ρ e (m (frOf ρ)) := ⟨fun h => h.run⟩
def toD : R RV → R D
 | .ok (.im d) => .ok d
 | .ok (.fr ds) => .ok (.lst ds)
 | _ => .bad
def toL : R RV → R (List D)
 | .ok (.im (.lst ds)) => .ok ds
 | .ok (.fr ds) => .ok ds
 | .ok (.ro ds) => .ok ds
 | _ => .bad
def toA : R RV → R D
 | .ok (.im d) => .ok d
 | .ok (.fr ds) => .ok (.lst ds)
 | .ok (.ro ds) => .ok (.lst ds)
 | _ => .bad
section
variable {X : Cx} {C : Ctx} {ρ : Rho} {e a b c : Expr} {es : List Expr} {m ma mb mc : MX} {d : D} {ds : List D} {pos p : Pos}
theorem okv_ee {r : R RV} (h : OKV X C ρ e r) (q : toD r = .ok d) : EE X C ρ e d := by
 rcases r with (d' | ds | ds) | n | _ <;> cases q
 ·exact h
 ·exact EF.ee h
theorem okv_el {r : R RV} (h : OKV X C ρ e r) (q : toL r = .ok ds) : EL X C ρ e ds := by
 rcases r with ((v | _ | _ | _) | ds | ds) | n | _ <;> cases q
 ·exact EE.el h
 ·exact EF.el h
 ·exact h
theorem EM.ee (h : EM X e m) (q : toD (m (frOf ρ)) = .ok d) : EE X C ρ e d := okv_ee (h C ρ) q
theorem EM.el (h : EM X e m) (q : toL (m (frOf ρ)) = .ok ds) : EL X C ρ e ds := okv_el (h C ρ) q
def eVar (i : Nat) : MX := fun E => match nthS E i with
 | .im d => .ok (.im d)
 | .ow ds => .ok (.ro ds)
 | _ => .bad
theorem em_var (i : Nat) {x : Str} (hN : X.N[i]? = some x := by rfl) (hv : Vis X.env.scope x := by first | exact Or.inl rfl | exact Or.inr (Or.inl rfl) | exact Or.inr (Or.inr rfl))
  (hd : (x == ("__debug__" : Str)) = false := by decide) (hcd : (x == ("__classdict__" : Str)) = false := by decide) : EM X (.Name x pos) (eVar i) := .mk fun C ρ => by
 unfold eVar
 split
 ·rename_i d h
  exact ee_var i hN (nth_im h) hv hd hcd
 ·rename_i ds h
  obtain ⟨a, h⟩ := nth_ow h
  exact el_var i hN h hv hd hcd
 ·trivial
def eC (d : D) : MX := fun _ => .ok (.im d)
theorem em_c (h : ∀ C ρ, EE X C ρ e d) : EM X e (eC d) := .mk fun C ρ => h C ρ
theorem em_int {i j} : EM X (.Constant (.int i) j pos) (eC (.int i)) := em_c fun _ _ => ee_int
theorem em_bl {i j} : EM X (.Constant (.bool i) j pos) (eC (.bl i)) := em_c fun _ _ => ee_bl
theorem em_non {j} : EM X (.Constant .none j pos) (eC .non) := em_c fun _ _ => ee_non
theorem em_str {i j} : EM X (.Constant (.str i) j pos) (eC (.str i)) := em_c fun _ _ => ee_str
theorem em_gint {x : Str} {i : Int} (hm : ∃ t, X.mg x = some (.int i t)) (hg : Gl X x := by rfl) (hd : (x == ("__debug__" : Str)) = false := by decide) : EM X (.Name x pos) (eC (.int i)) := em_c fun _ _ => ee_gint hm hg hd
def e1 (f : D → R RV) (m : MX) : MX := fun E => match toD (m E) with
 | .ok x => f x
 | _ => .bad
def e2 (f : D → D → R RV) (ma mb : MX) : MX := fun E => match toD (ma E) with
 | .ok x => (match toD (mb E) with
  | .ok y => f x y
  | _ => .bad)
 | _ => .bad
theorem em_e1 {f : D → R RV} (ha : EM X a ma) (h : ∀ C ρ x, EE X C ρ a x → OKV X C ρ e (f x)) : EM X e (e1 f ma) := .mk fun C ρ => by
 unfold e1
 split
 ·rename_i x q1
  exact h C ρ x (ha.ee q1)
 ·trivial
theorem em_e2 {f : D → D → R RV} (ha : EM X a ma) (hb : EM X b mb) (h : ∀ C ρ x y, EE X C ρ a x → EE X C ρ b y → OKV X C ρ e (f x y)) : EM X e (e2 f ma mb) := .mk fun C ρ => by
 unfold e2
 split
 ·rename_i x q1
  split
  ·rename_i y q2
   exact h C ρ x y (ha.ee q1) (hb.ee q2)
  ·trivial
 ·trivial
def int2 (f : Int → Int → R RV) : D → D → R RV
 | .at (.int i), .at (.int j) => f i j
 | _, _ => .bad
theorem em_int2 {f : Int → Int → R RV} (ha : EM X a ma) (hb : EM X b mb) (h : ∀ C ρ i j, EE X C ρ a (.int i) → EE X C ρ b (.int j) → OKV X C ρ e (f i j)) : EM X e (e2 (int2 f) ma mb) := em_e2 ha hb fun C ρ x y h1 h2 => by
 unfold int2
 split
 ·exact h C ρ _ _ h1 h2
 ·trivial
open Classical in
noncomputable def mulZ (i j : Int) : R RV := if IntMulOk i j then .ok (.im (.int (i * j))) else .bad
open Classical in
noncomputable def fdivZ (i j : Int) : R RV := if j ≠ 0 ∧ Sz 8999 j then .ok (.im (.int (i.fdiv j))) else .bad
def modZ (i j : Int) : R RV := if j ≠ 0 then .ok (.im (.int (i.fmod j))) else .bad
open Classical in
noncomputable def powZ (i j : Int) : R RV := if CPow i j then .ok (.im (.int (i ^ j.toNat))) else .bad
def subZ (i j : Int) : R RV := .ok (.im (.int (i - j)))
theorem mulZ_ok {i j : Int} (h : IntMulOk i j) : mulZ i j = .ok (.im (.int (i * j))) := if_pos h
theorem fdivZ_ok {i j : Int} (h : j ≠ 0) (s : Sz 8999 j) : fdivZ i j = .ok (.im (.int (i.fdiv j))) := if_pos ⟨h, s⟩
theorem fdivZ_pos {i j : Int} (h : 0 < j) (s : Sz 8999 j) : fdivZ i j = .ok (.im (.int (i / j))) := by rw [fdivZ_ok (Int.ne_of_gt h) s, Int.fdiv_eq_ediv_of_nonneg i (Int.le_of_lt h)]
theorem modZ_pos {i j : Int} (h : 0 < j) : modZ i j = .ok (.im (.int (i % j))) := by unfold modZ; rw [if_pos (Int.ne_of_gt h), Int.fmod_eq_emod_of_nonneg i (Int.le_of_lt h)]
theorem powZ_ok {i j : Int} (h : CPow i j) : powZ i j = .ok (.im (.int (i ^ j.toNat))) := if_pos h
noncomputable abbrev eMul := e2 (int2 mulZ)
noncomputable abbrev eDiv := e2 (int2 fdivZ)
abbrev eMod := e2 (int2 modZ)
abbrev eSub := e2 (int2 subZ)
theorem em_mul (ha : EM X a ma) (hb : EM X b mb) : EM X (.BinOp a .Mult b pos) (eMul ma mb) := em_int2 ha hb fun C ρ i j h1 h2 => by
 unfold mulZ
 split
 ·exact ee_mul h1 h2 (by assumption)
 ·trivial
theorem em_div (ha : EM X a ma) (hb : EM X b mb) : EM X (.BinOp a .FloorDiv b pos) (eDiv ma mb) := em_int2 ha hb fun C ρ i j h1 h2 => by
 unfold fdivZ
 split
 ·rename_i h
  exact ee_fdivN h1 h2 h.1 h.2
 ·trivial
theorem em_mod (ha : EM X a ma) (hb : EM X b mb) : EM X (.BinOp a .Mod b pos) (eMod ma mb) := em_int2 ha hb fun C ρ i j h1 h2 => by
 unfold modZ
 split
 ·exact ee_modN h1 h2 (by assumption)
 ·trivial
theorem em_sub (ha : EM X a ma) (hb : EM X b mb) : EM X (.BinOp a .Sub b pos) (eSub ma mb) := em_int2 ha hb fun C ρ i j h1 h2 => ee_sub h1 h2
def int1 (f : Int → R RV) : D → R RV
 | .at (.int i) => f i
 | _ => .bad
def negZ (i : Int) : R RV := .ok (.im (.int (-i)))
def absZ (i : Int) : R RV := .ok (.im (.int i.natAbs))
abbrev eNeg := e1 (int1 negZ)
abbrev eAbs := e1 (int1 absZ)
theorem em_neg (ha : EM X a ma) : EM X (.UnaryOp .USub a pos) (eNeg ma) := em_e1 ha fun C ρ x h => by
 unfold int1
 split
 ·exact ee_neg h
 ·trivial
theorem em_abs {p : Pos} (hm : X.mg "abs" = none) (ha : EM X e m) (hg : Gl X "abs" := by rfl) (he : starEach [e] X.env = (false, eval e X.env) :: starEach [] X.env := by exact se_of rfl) : EM X (.Call (.Name "abs" p) [e] [] pos) (eAbs m) := em_e1 ha fun C ρ x h => by
 unfold int1
 split
 ·exact ee_abs hm h hg he
 ·trivial
theorem ee_addT {xs ys : List D} (ha : EE X C ρ a (.tup xs)) (hb : EE X C ρ b (.tup ys)) (hl : xs.length + ys.length ≤ sizeLine) : EE X C ρ (.BinOp a .Add b pos) (.tup (xs ++ ys)) :=
 ee_opD op_catA ha hb fun σ H v u S r1 r2 Q q => by
  cases r1 with
  | tup s1 t1 =>
   cases r2 with
   | tup s2 t2 =>
    have l1 := t1.length
    have l2 := t2.length
    refine ⟨_, _, _, _, rfl, rfl, Same.seqT S.visIn (tq s1), Same.seqT S.visIn (tq s2), by rw [l1, l2]; exact hl, fun e => ?_, fun _ e => ?_, fun _ _ p np => ?_⟩
    ·have e1 : xs = [] := List.eq_nil_of_length_eq_zero (by rw [← l1, e]; rfl)
     exact q _ H (Same.refl H) (by rw [e1]; exact .tup s2 t2)
    ·have e1 : ys = [] := List.eq_nil_of_length_eq_zero (by rw [← l2, e]; rfl)
     exact q _ H (Same.refl H) (by rw [e1, List.append_nil]; exact .tup s1 t1)
    ·refine q _ _ (same_upd np) ?_
     rw [S.visNew np]
     exact .tup upd_same (Reps.mono (same_upd (S.visIn.free np)) _ (t1.append t2))
theorem ee_addS {x y : Str} (ha : EE X C ρ a (.str x)) (hb : EE X C ρ b (.str y)) (hl : x.length + y.length ≤ sizeLine) : EE X C ρ (.BinOp a .Add b pos) (.str (x ++ y)) := ee_op op_add_str ha hb fun _ _ q => ⟨x, y, rfl, rfl, hl, q⟩
def addD : D → D → R RV
 | .at (.int i), .at (.int j) => .ok (.im (.int (i + j)))
 | .tup xs, .tup ys => if xs.length + ys.length ≤ sizeLine then .ok (.im (.tup (xs ++ ys))) else .bad
 | .at (.str x), .at (.str y) => if x.length + y.length ≤ sizeLine then .ok (.im (.str (x ++ y))) else .bad
 | _, _ => .bad
def eAdd (ma mb : MX) : MX := fun E => match toL (ma E) with
 | .ok xs => (match toL (mb E) with
  | .ok ys => if xs.length + ys.length ≤ sizeLine then .ok (.fr (xs ++ ys)) else .bad
  | _ => .bad)
 | _ => e2 addD ma mb E
theorem em_add (ha : EM X a ma) (hb : EM X b mb) : EM X (.BinOp a .Add b pos) (eAdd ma mb) := .mk fun C ρ => by
 unfold eAdd
 split
 ·rename_i xs q1
  split
  ·rename_i ys q2
   split
   ·exact ef_cat (ha.el q1) (hb.el q2) (by assumption)
   ·trivial
  ·trivial
 ·refine em_e2 ha hb (fun C ρ x y h1 h2 => ?_) C ρ
  unfold addD
  split
  ·exact ee_add h1 h2
  ·split
   ·exact ee_addT h1 h2 (by assumption)
   ·trivial
  ·split
   ·exact ee_addS h1 h2 (by assumption)
   ·trivial
  ·trivial
def maxZ (i j : Int) : R RV := .ok (.im (.int (max i j)))
def minZ (i j : Int) : R RV := .ok (.im (.int (min i j)))
abbrev eMax2 := e2 (int2 maxZ)
abbrev eMin2 := e2 (int2 minZ)
theorem em_max2 {p : Pos} (hm : X.mg "max" = none) (ha : EM X a ma) (hb : EM X b mb) (hc : X.calm = true := by rfl) (hg : Gl X "max" := by rfl) (he : starEach [a, b] X.env = (false, eval a X.env) :: starEach [b] X.env := by exact se_of rfl) (he2 : starEach [b] X.env = (false, eval b X.env) :: starEach [] X.env := by exact se_of rfl)
  (hpl : (backTo pos (starEach [b] X.env)).any (·.1) = false := by rfl) : EM X (.Call (.Name "max" p) [a, b] [] pos) (eMax2 ma mb) := em_int2 ha hb fun C ρ i j h1 h2 => ee_max2 hm h1 h2 hc hg he he2 hpl
theorem em_min2 {p : Pos} (hm : X.mg "min" = none) (ha : EM X a ma) (hb : EM X b mb) (hc : X.calm = true := by rfl) (hg : Gl X "min" := by rfl) (he : starEach [a, b] X.env = (false, eval a X.env) :: starEach [b] X.env := by exact se_of rfl) (he2 : starEach [b] X.env = (false, eval b X.env) :: starEach [] X.env := by exact se_of rfl)
  (hpl : (backTo pos (starEach [b] X.env)).any (·.1) = false := by rfl) : EM X (.Call (.Name "min" p) [a, b] [] pos) (eMin2 ma mb) := em_int2 ha hb fun C ρ i j h1 h2 => ee_min2 hm h1 h2 hc hg he he2 hpl
structure CM (X : Cx) (op : CmpOp) (a b : Expr) (c : Fr → R Bool) : Prop where
 run : ∀ C ρ k, c (frOf ρ) = .ok k → EC X C ρ op a b (.bl k)
instance {X : Cx} {op : CmpOp} {a b : Expr} {c : Fr → R Bool} : CoeFun (CM X op a b c) fun _ => ∀ C ρ k, c (frOf ρ) = .ok k → EC X C ρ op a b (.bl k) := ⟨fun h => h.run⟩
def c2 (f : D → D → R Bool) (ma mb : MX) : Fr → R Bool := fun E => match toD (ma E) with
 | .ok x => (match toD (mb E) with
  | .ok y => f x y
  | _ => .bad)
 | _ => .bad
theorem cm_c2 {op : CmpOp} {f : D → D → R Bool} (ha : EM X a ma) (hb : EM X b mb) (h : ∀ C ρ x y k, EE X C ρ a x → EE X C ρ b y → f x y = .ok k → EC X C ρ op a b (.bl k)) : CM X op a b (c2 f ma mb) := .mk fun C ρ k q => by
 unfold c2 at q
 split at q
 ·rename_i x q1
  split at q
  ·rename_i y q2
   exact h C ρ x y k (ha.ee q1) (hb.ee q2) q
  ·cases q
 ·cases q
def intsOf : List D → Option (List Int)
 | [] => some []
 | .at (.int i) :: ds => (intsOf ds).map (i :: ·)
 | _ => none
theorem intsOf_eq : ∀ {ds : List D} {ns : List Int}, intsOf ds = some ns → ds = D.ints ns
 | [], ns, h => by cases h; rfl
 | .at (.int i) :: ds, ns, h => by
  rw [intsOf] at h
  cases e : intsOf ds with
  | none => rw [e] at h; cases h
  | some ms => rw [e] at h; cases h; rw [intsOf_eq e]; rfl
 | .at .non :: _, _, h => by cases h
 | .at (.bl _) :: _, _, h => by cases h
 | .at (.str _) :: _, _, h => by cases h
 | .at (.byt _) :: _, _, h => by cases h
 | .at (.flt _) :: _, _, h => by cases h
 | .at (.ref _) :: _, _, h => by cases h
 | .at (.ty _) :: _, _, h => by cases h
 | .tup _ :: _, _, h => by cases h
 | .lst _ :: _, _, h => by cases h
 | .exc _ :: _, _, h => by cases h
theorem intsOf_ints : ∀ ns : List Int, intsOf (D.ints ns) = some ns
 | [] => rfl
 | n :: ns => by
  show intsOf (.at (.int n) :: D.ints ns) = _
  rw [intsOf, intsOf_ints ns]
  rfl
def ltD : D → D → R Bool
 | .at (.int i), .at (.int j) => .ok (decide (i < j))
 | .tup xs, .tup ys => (match intsOf xs, intsOf ys with
  | some ns, some ms => .ok (HT.lexLt ns ms)
  | _, _ => .bad)
 | _, _ => .bad
def lexB (f : List Int → List Int → Bool) : Option (List Int) → Option (List Int) → R Bool
 | some ns, some ms => .ok (f ns ms)
 | _, _ => .bad
theorem lexB_ok {f : List Int → List Int → Bool} {x y : Option (List Int)} {k : Bool} (h : lexB f x y = .ok k) : ∃ ns ms, x = some ns ∧ y = some ms ∧ k = f ns ms := by
 unfold lexB at h
 split at h
 ·cases h; exact ⟨_, _, rfl, rfl, rfl⟩
 ·cases h
def leD : D → D → R Bool
 | .at (.int i), .at (.int j) => .ok (decide (i ≤ j))
 | .tup xs, .tup ys => lexB (fun ns ms => !HT.lexLt ms ns) (intsOf xs) (intsOf ys)
 | _, _ => .bad
def gtD : D → D → R Bool
 | .at (.int i), .at (.int j) => .ok (decide (j < i))
 | .tup xs, .tup ys => lexB (fun ns ms => HT.lexLt ms ns) (intsOf xs) (intsOf ys)
 | _, _ => .bad
def geD : D → D → R Bool
 | .at (.int i), .at (.int j) => .ok (decide (j ≤ i))
 | .tup xs, .tup ys => lexB (fun ns ms => !HT.lexLt ns ms) (intsOf xs) (intsOf ys)
 | _, _ => .bad
theorem lexLt_dec : ∀ xs ys : List Int, HT.lexLt xs ys = decide (xs < ys)
 | [], [] => by simp [HT.lexLt]
 | [], _ :: _ => by simp [HT.lexLt]
 | _ :: _, [] => by simp [HT.lexLt]
 | x :: xs, y :: ys => by
  rw [HT.lexLt]
  by_cases h : x = y
  ·rw [if_pos h, lexLt_dec xs ys]
   simp [h, List.cons_lt_cons_iff]
  ·rw [if_neg h]
   simp [h, List.cons_lt_cons_iff]
theorem dataLt_lex (ns ms : List Int) : PySem.W.dataLt (.tuple (ns.map .int)) (.tuple (ms.map .int)) = HT.lexLt ns ms := by
 rw [PySem.W.dataLt_tuple, lexLt_dec]
 exact PySem.W.dataLt_ints ns ms
theorem vals_ints' {h : Heap} : ∀ {b : List Int} {us : List Value}, Vals (b.map V.int) us → ReadsAll h us (b.map .int) []
 | [], _, .nil => .nil
 | i :: b, _, .cons r t => by
  obtain ⟨tk, rfl⟩ := r
  exact ReadsAll.cons (as := []) (.int i tk) (vals_ints' t)
def rCmT (K : PySem.W.Frag) (f : List Int → List Int → Bool) : R2 := fun x y H Q => ∃ a b ns ms, x = .ref a ∧ y = .ref b ∧ SqT K H a (ns.map V.int) ∧ SqT K H b (ms.map V.int) ∧ Q (.bl (f ns ms)) H
theorem reads_tupI {h : Heap} {a : Addr} {ns : List Int} {its : List Value} (r : Vals (ns.map V.int) its) (p : IsTup h a its.toArray) : Reads h (.ref a) (.tuple (ns.map .int)) [] := by
 obtain ⟨o, g3, g4, n, g5⟩ := p
 exact .tuple g3 g4 g5 (vals_ints' r)
theorem depth_tupI (ns : List Int) : PyData.depth (.tuple (ns.map .int)) ≤ 3 := by
 simp only [PyData.depth, PySem.W.depth_ints]
 omega
theorem alike_tupI (ns ms : List Int) : PySem.W.alike (.tuple (ns.map .int)) (.tuple (ms.map .int)) = true := by
 simp only [PySem.W.alike, PySem.W.alike_ints]
theorem op_geT {X : Cx} (hu : X.A.units + 64 < cLine) : OpR X (compareOp .GtE) (rCmT X.K fun ns ms => !HT.lexLt ns ms) := by
 intro pins s σ H x y v u Q I rx ry h
 obtain ⟨a, b, ns, ms, rfl, rfl, ha, hb, q⟩ := h
 cases rx
 cases ry
 obtain ⟨its, r1, p1, _⟩ := I.tuple ha
 obtain ⟨its2, r2, p2, _⟩ := I.tuple hb
 refine PySem.W.ge_data (reads_tupI r1 p1) (reads_tupI r2 p2) (alike_tupI ns ms) (fun z => nomatch z) (by have := depth_tupI ns; have := depth_tupI ms; omega) ?_
 rw [dataLt_lex]
 exact ⟨.bl (!HT.lexLt ns ms), H, I, rfl, q⟩
theorem op_gtT {X : Cx} (hu : X.A.units + 64 < cLine) : OpR X (compareOp .Gt) (rCmT X.K fun ns ms => HT.lexLt ms ns) := by
 intro pins s σ H x y v u Q I rx ry h
 obtain ⟨a, b, ns, ms, rfl, rfl, ha, hb, q⟩ := h
 cases rx
 cases ry
 obtain ⟨its, r1, p1, _⟩ := I.tuple ha
 obtain ⟨its2, r2, p2, _⟩ := I.tuple hb
 refine PySem.W.gt_data (reads_tupI r1 p1) (reads_tupI r2 p2) (alike_tupI ns ms) (fun z => nomatch z) (by have := depth_tupI ns; have := depth_tupI ms; omega) ?_
 rw [dataLt_lex]
 exact ⟨.bl (HT.lexLt ms ns), H, I, rfl, q⟩
theorem ec_cmT {op : CmpOp} {f : List Int → List Int → Bool} {ns ms : List Int} (ho : OpR X (compareOp op) (rCmT X.K f)) (ha : EE X C ρ a (.tup (D.ints ns))) (hb : EE X C ρ b (.tup (D.ints ms))) : EC X C ρ op a b (.bl (f ns ms)) :=
 ec_opD ho ha hb fun σ H v u S r1 r2 Q q => by
  cases r1 with
  | tup s1 t1 =>
   cases r2 with
   | tup s2 t2 =>
    have e1 := t1.ints
    have e2 := t2.ints
    subst e1 e2
    exact ⟨_, _, ns, ms, rfl, rfl, Same.seqT S.visIn (tq s1), Same.seqT S.visIn (tq s2), q H (Same.refl H)⟩
abbrev cLt := c2 ltD
abbrev cGt := c2 gtD
abbrev cGe := c2 geD
theorem cm_lt (hu : X.A.units + 64 < cLine) (ha : EM X a ma) (hb : EM X b mb) : CM X .Lt a b (cLt ma mb) := cm_c2 ha hb fun C ρ x y k h1 h2 q => by
 unfold ltD at q
 split at q
 ·cases q; exact ec_lt h1 h2
 ·split at q
  ·rename_i ns ms e1 e2
   cases q
   rw [intsOf_eq e1] at h1
   rw [intsOf_eq e2] at h2
   exact ec_ltT (by omega) h1 h2
  ·cases q
 ·cases q
theorem cm_gt (hu : X.A.units + 64 < cLine) (ha : EM X a ma) (hb : EM X b mb) : CM X .Gt a b (cGt ma mb) := cm_c2 ha hb fun C ρ x y k h1 h2 q => by
 unfold gtD at q
 split at q
 ·cases q; exact ec_gt h1 h2
 ·obtain ⟨ns, ms, e1, e2, rfl⟩ := lexB_ok q
  rw [intsOf_eq e1] at h1
  rw [intsOf_eq e2] at h2
  exact ec_cmT (f := fun ns ms => HT.lexLt ms ns) (op_gtT hu) h1 h2
 ·cases q
theorem cm_ge (hu : X.A.units + 64 < cLine) (ha : EM X a ma) (hb : EM X b mb) : CM X .GtE a b (cGe ma mb) := cm_c2 ha hb fun C ρ x y k h1 h2 q => by
 unfold geD at q
 split at q
 ·cases q; exact ec_ge h1 h2
 ·obtain ⟨ns, ms, e1, e2, rfl⟩ := lexB_ok q
  rw [intsOf_eq e1] at h1
  rw [intsOf_eq e2] at h2
  exact ec_cmT (f := fun ns ms => !HT.lexLt ns ms) (op_geT hu) h1 h2
 ·cases q
def goodB (d : D) : Bool := d.pyOk && decide (d.dep ≤ 64)
theorem goodB_iff {d : D} : goodB d = true ↔ d.Good := by unfold goodB D.Good; rw [Bool.and_eq_true, decide_eq_true_iff]
def eqD : D → D → R Bool
 | .at (.int i), .at (.int j) => .ok (decide (i = j))
 | .at (.bl i), .at (.bl j) => .ok (i == j)
 | .at (.str i), .at (.str j) => .ok (i == j)
 | x, y => if goodB x = true ∧ goodB y = true then .ok (D.eqb x y) else .bad
def cEq (ma mb : MX) : Fr → R Bool := fun E => match toL (ma E) with
 | .ok xs => (match toL (mb E) with
  | .ok ys => if goodB (.lst xs) = true ∧ goodB (.lst ys) = true then .ok (D.eqb (.lst xs) (.lst ys)) else .bad
  | _ => c2 eqD ma mb E)
 | _ => c2 eqD ma mb E
def notR : R Bool → R Bool
 | .ok b => .ok (!b)
 | .er n => .er n
 | .bad => .bad
theorem notR_ok {r : R Bool} {k : Bool} (h : notR r = .ok k) : ∃ k', r = .ok k' ∧ k = !k' := by
 cases r <;> cases h
 exact ⟨_, rfl, rfl⟩
def cNe (ma mb : MX) : Fr → R Bool := fun E => notR (cEq ma mb E)
theorem eqD_ok (hu : X.A.units + 64 < cLine) {C : Ctx} {ρ : Rho} {x y : D} {k : Bool} (h1 : EE X C ρ a x) (h2 : EE X C ρ b y) (q : eqD x y = .ok k) : EC X C ρ .Eq a b (.bl k) ∧ EC X C ρ .NotEq a b (.bl (!k)) := by
 unfold eqD at q
 split at q
 ·cases q; exact ⟨ec_eqI h1 h2, ec_neI h1 h2⟩
 ·cases q; exact ⟨ec_eqB h1 h2, ec_neB h1 h2⟩
 ·cases q; exact ⟨ec_eqS h1 h2, ec_neS h1 h2⟩
 ·split at q
  ·rename_i g
   cases q
   exact ⟨ec_eqD hu h1 h2 (goodB_iff.mp g.1) (goodB_iff.mp g.2), ec_neD hu h1 h2 (goodB_iff.mp g.1) (goodB_iff.mp g.2)⟩
  ·cases q
theorem cm_eqs (hu : X.A.units + 64 < cLine) (ha : EM X a ma) (hb : EM X b mb) {C : Ctx} {ρ : Rho} {k : Bool} (q : cEq ma mb (frOf ρ) = .ok k) : EC X C ρ .Eq a b (.bl k) ∧ EC X C ρ .NotEq a b (.bl (!k)) := by
 have two : c2 eqD ma mb (frOf ρ) = .ok k → EC X C ρ .Eq a b (.bl k) ∧ EC X C ρ .NotEq a b (.bl (!k)) := fun q =>
  ⟨cm_c2 ha hb (fun C ρ x y k h1 h2 q => (eqD_ok hu h1 h2 q).1) C ρ k q, by
   unfold c2 at q
   split at q
   ·rename_i x q1
    split at q
    ·rename_i y q2
     exact (eqD_ok hu (ha.ee q1) (hb.ee q2) q).2
    ·cases q
   ·cases q⟩
 unfold cEq at q
 split at q
 ·rename_i xs q1
  split at q
  ·rename_i ys q2
   split at q
   ·rename_i g
    cases q
    exact ⟨ec_eqL hu (ha.el q1) (hb.el q2) (goodB_iff.mp g.1) (goodB_iff.mp g.2), ec_neL hu (ha.el q1) (hb.el q2) (goodB_iff.mp g.1) (goodB_iff.mp g.2)⟩
   ·cases q
  ·exact two q
 ·exact two q
theorem cm_eq (hu : X.A.units + 64 < cLine) (ha : EM X a ma) (hb : EM X b mb) : CM X .Eq a b (cEq ma mb) := .mk fun C ρ k q => (cm_eqs hu ha hb q).1
theorem cm_ne (hu : X.A.units + 64 < cLine) (ha : EM X a ma) (hb : EM X b mb) : CM X .NotEq a b (cNe ma mb) := .mk fun C ρ k q => by
 obtain ⟨k', q', rfl⟩ := notR_ok q
 exact (cm_eqs hu ha hb q').2
def nonR : R RV → R Bool
 | .ok (.im d) => .ok d.isNon
 | .ok (.fr _) => .ok false
 | .ok (.ro _) => .ok false
 | _ => .bad
def cIsN (m : MX) : Fr → R Bool := fun E => nonR (m E)
def cNotN (m : MX) : Fr → R Bool := fun E => notR (nonR (m E))
theorem ec_isNL (ha : EL X C ρ a ds) {j p} : EC X C ρ .Is a (.Constant .none j p) (.bl false) := fun σ H S Q q pins s I => by
 refine binT pe_wp pe_wp I (R := fun v u H2 => u = .non ∧ Q (.bl (decide (v = .non))) H2) (ha σ H S _ fun l xs H1 s1 sq r1 => (ee_non (C := C) (ρ := ρ)) σ H1 (S.same s1) _ fun u H2 s2 r2 => ?_) fun v u s2 x y H2 I2 rx ry q2 => op_isN pins s2 σ H2 x y v u Q I2 rx ry q2
 cases r2
 exact ⟨rfl, q H2 (s1.trans s2)⟩
theorem ec_notNL (ha : EL X C ρ a ds) {j p} : EC X C ρ .IsNot a (.Constant .none j p) (.bl true) := fun σ H S Q q pins s I => by
 refine binT pe_wp pe_wp I (R := fun v u H2 => u = .non ∧ Q (.bl (!decide (v = .non))) H2) (ha σ H S _ fun l xs H1 s1 sq r1 => (ee_non (C := C) (ρ := ρ)) σ H1 (S.same s1) _ fun u H2 s2 r2 => ?_) fun v u s2 x y H2 I2 rx ry q2 => op_notN pins s2 σ H2 x y v u Q I2 rx ry q2
 cases r2
 exact ⟨rfl, q H2 (s1.trans s2)⟩
theorem nonR_ok {r : R RV} {k : Bool} (h : OKV X C ρ a r) (q : nonR r = .ok k) {j p} : EC X C ρ .Is a (.Constant .none j p) (.bl k) ∧ EC X C ρ .IsNot a (.Constant .none j p) (.bl (!k)) := by
 rcases r with (d | ds | ds) | n | _ <;> cases q
 ·exact ⟨ec_isN h, ec_notN h⟩
 ·exact ⟨ec_isNL (EF.el h), ec_notNL (EF.el h)⟩
 ·exact ⟨ec_isNL h, ec_notNL h⟩
theorem cm_isN (ha : EM X a ma) {j p} : CM X .Is a (.Constant .none j p) (cIsN ma) := .mk fun C ρ k q => (nonR_ok (ha C ρ) q).1
def inR (x : R D) (l : R (List D)) : R Bool := match x with
 | .ok x => (match l with
  | .ok ds => if goodB x = true ∧ goodB (.lst ds) = true then .ok (ds.any fun z => D.eqb z x) else .bad
  | _ => .bad)
 | _ => .bad
def cIn (ma mb : MX) : Fr → R Bool := fun E => inR (toD (ma E)) (toL (mb E))
def cNotIn (ma mb : MX) : Fr → R Bool := fun E => notR (inR (toD (ma E)) (toL (mb E)))
def blR : R Bool → R RV
 | .ok b => .ok (.im (.bl b))
 | _ => .bad
def eCmp (c : Fr → R Bool) : MX := fun E => blR (c E)
theorem em_bool {c : Fr → R Bool} (h : ∀ C ρ k, c (frOf ρ) = .ok k → EE X C ρ e (.bl k)) : EM X e (eCmp c) := .mk fun C ρ => by
 unfold eCmp
 cases q : c (frOf ρ) with
 | ok k => exact h C ρ k q
 | er n => trivial
 | bad => trivial
theorem em_cmp {op : CmpOp} {c : Fr → R Bool} (h : CM X op a b c) (h1 : behindInMarks op b = false := by first | exact nobehind _ (by decide) (by decide) | rfl) : EM X (.Compare a [op] [b] pos) (eCmp c) := em_bool fun C ρ k q => ee_cmp (h C ρ k q) h1
structure TM (X : Cx) (e : Expr) (t : Fr → R Bool) : Prop where
 run : ∀ C ρ k, t (frOf ρ) = .ok k → ET X C ρ e k
instance {X : Cx} {e : Expr} {t : Fr → R Bool} : CoeFun (TM X e t) fun _ => ∀ C ρ k, t (frOf ρ) = .ok k → ET X C ρ e k := ⟨fun h => h.run⟩
structure WM (X : Cx) (e : Expr) (t : Fr → R Bool) : Prop where
 run : ∀ C ρ k, t (frOf ρ) = .ok k → EW X C ρ e k
instance {X : Cx} {e : Expr} {t : Fr → R Bool} : CoeFun (WM X e t) fun _ => ∀ C ρ k, t (frOf ρ) = .ok k → EW X C ρ e k := ⟨fun h => h.run⟩
theorem tm_cmp {op : CmpOp} {c : Fr → R Bool} (h : CM X op a b c) (h1 : behindInMarks op b = false := by first | exact nobehind _ (by decide) (by decide) | rfl) : TM X (.Compare a [op] [b] pos) c := .mk fun C ρ k q => et_cmp (h C ρ k q) h1
theorem WM.tm {t : Fr → R Bool} (h : WM X e t) : TM X e t := .mk fun C ρ k q => (h C ρ k q).et
def tAnd (t u : Fr → R Bool) : Fr → R Bool := fun E => match t E with
 | .ok true => u E
 | .ok false => .ok false
 | _ => .bad
def tOr (t u : Fr → R Bool) : Fr → R Bool := fun E => match t E with
 | .ok false => u E
 | .ok true => .ok true
 | _ => .bad
def tNot (t : Fr → R Bool) : Fr → R Bool := fun E => notR (t E)
variable {t u : Fr → R Bool} {rest : List Expr}
theorem wm_or1 (h : TM X a t) : WM X (.BoolOp .Or [a] pos) t := .mk fun C ρ k q => ew_or1 (h C ρ k q)
theorem wm_or (h : TM X a t) (h2 : WM X (.BoolOp .Or (b :: rest) pos) u) : WM X (.BoolOp .Or (a :: b :: rest) pos) (tOr t u) := .mk fun C ρ k q => by
 unfold tOr at q
 split at q
 ·rename_i q1
  exact ew_or (k := false) (h C ρ _ q1) fun _ => h2 C ρ k q
 ·rename_i q1
  cases q
  exact ew_or (k := true) (k' := true) (h C ρ _ q1) fun z => nomatch z
 ·cases q
theorem tm_not (h : TM X a t) : TM X (.UnaryOp .Not a pos) (tNot t) := .mk fun C ρ k q => by
 obtain ⟨k', q', rfl⟩ := notR_ok q
 exact et_not (h C ρ _ q')
def truR : R RV → R Bool
 | .ok (.im (.at (.bl b))) => .ok b
 | .ok (.im (.lst ds)) => .ok (!ds.isEmpty)
 | .ok (.fr ds) => .ok (!ds.isEmpty)
 | .ok (.ro ds) => .ok (!ds.isEmpty)
 | _ => .bad
def tVal (m : MX) : Fr → R Bool := fun E => truR (m E)
theorem tm_val (h : EM X e m) (he : ∀ whole, isTrue e X.env whole = (do let v ← whole; standAt e.pos; holding [v] (truthy v)) := by intro _; rfl) : TM X e (tVal m) := .mk fun C ρ k q => by
 have h' := h C ρ
 unfold tVal at q
 revert h' q
 generalize m (frOf ρ) = r
 intro q h'
 unfold truR at q
 split at q
 ·cases q; exact et_val h' he
 ·cases q; exact et_lst (EE.el h') he
 ·cases q; exact et_lst (EF.el h') he
 ·cases q; exact et_lst h' he
 ·cases q
def bolR : R RV → R Bool
 | .ok (.im (.at (.bl b))) => .ok b
 | _ => .bad
def eAnd (m n : MX) : MX := fun E => blR (tAnd (fun E => bolR (m E)) (fun E => bolR (n E)) E)
def eOr (m n : MX) : MX := fun E => blR (tOr (fun E => bolR (m E)) (fun E => bolR (n E)) E)
def eNot (m : MX) : MX := fun E => blR (notR (bolR (m E)))
theorem bolR_ee {m : MX} {k : Bool} (h : EM X e m) (q : bolR (m (frOf ρ)) = .ok k) : EE X C ρ e (.bl k) := by
 have h' := h C ρ
 revert h' q
 generalize m (frOf ρ) = r
 intro q h'
 unfold bolR at q
 split at q
 ·cases q; exact h'
 ·cases q
theorem em_b1 {op} (h : EM X a m) : EM X (.BoolOp op [a] pos) m := .mk fun C ρ => by
 have h' := h C ρ
 revert h'
 generalize m (frOf ρ) = r
 rcases r with (d | ds | ds) | n | _ <;> intro h'
 ·exact ee_b1 h'
 ·exact fun σ H S Q q => wpE_of (pe_one pe_wp) (h' σ H S Q q)
 ·exact fun σ H S Q q => wpE_of (pe_one pe_wp) (h' σ H S Q q)
 ·exact fun σ H S W tk hW Q => wpE_of (pe_one pe_wp) (h' σ H S W tk hW Q)
 ·trivial
theorem em_and (h : EM X a ma) (h2 : EM X (.BoolOp .And (b :: rest) pos) mb) : EM X (.BoolOp .And (a :: b :: rest) pos) (eAnd ma mb) := em_bool (c := tAnd (fun E => bolR (ma E)) (fun E => bolR (mb E))) fun C ρ k q => by
 unfold tAnd at q
 split at q
 ·rename_i q1
  exact ee_and (k := true) (bolR_ee h q1) fun _ => bolR_ee h2 q
 ·rename_i q1
  cases q
  exact ee_and (k := false) (k' := true) (bolR_ee h q1) fun z => nomatch z
 ·cases q
def eIf (t : Fr → R Bool) (m n : MX) : MX := fun E => match t E with
 | .ok b => blend b (toD (m E)) (toD (n E))
 | _ => .bad
where blend (b : Bool) (x y : R D) : R RV := match b with
 | true => (match x with | .ok d => .ok (.im d) | _ => .bad)
 | false => (match y with | .ok d => .ok (.im d) | _ => .bad)
def chainR (p1 p2 : Int → Int → Bool) : R D → R D → R D → R Bool
 | .ok (.at (.int i)), .ok (.at (.int j)), .ok (.at (.int l)) => .ok (p1 i j && p2 j l)
 | _, _, _ => .bad
def cChain (p1 p2 : Int → Int → Bool) (ma mb mc : MX) : Fr → R Bool := fun E => chainR p1 p2 (toD (ma E)) (toD (mb E)) (toD (mc E))
theorem chain_ok {p1 p2 : Int → Int → Bool} {x y z : R D} {k : Bool} (h : chainR p1 p2 x y z = .ok k) : ∃ i j l, x = .ok (.int i) ∧ y = .ok (.int j) ∧ z = .ok (.int l) ∧ k = (p1 i j && p2 j l) := by
 unfold chainR at h
 split at h
 ·cases h; exact ⟨_, _, _, rfl, rfl, rfl, rfl⟩
 ·cases h
theorem em_chain {o1 o2 : CmpOp} {p1 p2 : Int → Int → Bool} (h1 : OpR X (compareOp o1) (rI0 fun i j => .bl (p1 i j))) (h2 : OpR X (compareOp o2) (rI0 fun i j => .bl (p2 i j))) (ha : EM X a ma) (hb : EM X b mb) (hc : EM X c mc) (hm : lastMarks [o1, o2] [b, c] = false := by with_unfolding_all rfl) :
  EM X (.Compare a [o1, o2] [b, c] pos) (eCmp (cChain p1 p2 ma mb mc)) := em_bool fun C ρ k q => by
 obtain ⟨i, j, l, q1, q2, q3, rfl⟩ := chain_ok q
 exact ec_chain h1 h2 (ha.ee q1) (hb.ee q2) (hc.ee q3) hm
end
end DL
namespace DL
open PySem PySem.Spec PyProof.Rows L2
section
variable {X : Cx} {C : Ctx} {ρ : Rho} {e a b c : Expr} {es : List Expr} {m ma mb mc : MX} {d : D} {ds : List D} {pos p : Pos} {t : Fr → R Bool}
structure AM (X : Cx) (es : List Expr) (ma : Fr → R (List D)) : Prop where
 run : ∀ C ρ ds, ma (frOf ρ) = .ok ds → EA X C ρ es ds ∧ ds.length = es.length
instance {X : Cx} {es : List Expr} {ma : Fr → R (List D)} : CoeFun (AM X es ma) fun _ => ∀ C ρ ds, ma (frOf ρ) = .ok ds → EA X C ρ es ds ∧ ds.length = es.length := ⟨fun h => h.run⟩
structure AL (X : Cx) (es : List Expr) (ma : Fr → R (List D)) : Prop where
 run : ∀ C ρ ds, ma (frOf ρ) = .ok ds → EAl X C ρ es ds ∧ ds.length = es.length
instance {X : Cx} {es : List Expr} {ma : Fr → R (List D)} : CoeFun (AL X es ma) fun _ => ∀ C ρ ds, ma (frOf ρ) = .ok ds → EAl X C ρ es ds ∧ ds.length = es.length := ⟨fun h => h.run⟩
def consR (x : R D) (l : R (List D)) : R (List D) := match x with
 | .ok d => (match l with
  | .ok ds => .ok (d :: ds)
  | _ => .bad)
 | _ => .bad
theorem consR_ok {x : R D} {l : R (List D)} {ds : List D} (h : consR x l = .ok ds) : ∃ d es, x = .ok d ∧ l = .ok es ∧ ds = d :: es := by
 unfold consR at h
 split at h
 ·split at h
  ·cases h; exact ⟨_, _, rfl, rfl, rfl⟩
  ·cases h
 ·cases h
def aNil : Fr → R (List D) := fun _ => .ok []
def aCons (m : MX) (ma : Fr → R (List D)) : Fr → R (List D) := fun E => consR (toD (m E)) (ma E)
def lCons (m : MX) (ma : Fr → R (List D)) : Fr → R (List D) := fun E => consR (toA (m E)) (ma E)
theorem am_nil : AM X [] aNil := .mk fun C ρ ds q => by cases q; exact ⟨ea_nil, rfl⟩
theorem am_cons {mr : Fr → R (List D)} (h : EM X e m) (hr : AM X es mr) (hs : starEach (e :: es) X.env = (false, eval e X.env) :: starEach es X.env := by exact se_of rfl) : AM X (e :: es) (aCons m mr) := .mk fun C ρ ds q => by
 obtain ⟨d, ds', q1, q2, rfl⟩ := consR_ok q
 exact ⟨ea_cons (h.ee q1) (hr C ρ _ q2).1 hs, congrArg (· + 1) (hr C ρ _ q2).2⟩
def tupR (l : R (List D)) : R RV := match l with
 | .ok ds => .ok (.im (.tup ds))
 | _ => .bad
def lstR (l : R (List D)) : R RV := match l with
 | .ok ds => .ok (.fr ds)
 | _ => .bad
def eTup (ma : Fr → R (List D)) : MX := fun E => tupR (ma E)
def eLst (ma : Fr → R (List D)) : MX := fun E => lstR (ma E)
theorem em_tup {mr : Fr → R (List D)} (h : AM X es mr) {x1} (hl : es.length ≤ sizeLine := by exact Nat.le_of_ble_eq_true rfl) : EM X (.Tuple es x1 pos) (eTup mr) := .mk fun C ρ => by
 unfold eTup
 cases q : mr (frOf ρ) with
 | ok ds => exact ee_tup (h C ρ _ q).1 (by rw [(h C ρ _ q).2]; exact hl)
 | er n => trivial
 | bad => trivial
theorem em_lst {mr : Fr → R (List D)} (h : AM X es mr) (hl : es.length ≤ sizeLine := by exact Nat.le_of_ble_eq_true rfl) : EM X (.List es pos) (eLst mr) := .mk fun C ρ => by
 unfold eLst
 cases q : mr (frOf ρ) with
 | ok ds => exact ef_lst (h C ρ _ q).1 (by rw [(h C ρ _ q).2]; exact hl)
 | er n => trivial
 | bad => trivial
def atR (l : List D) (i : Int) : R RV := match atI l i with
 | some d => .ok (.im d)
 | none => .bad
theorem atR_ok {l : List D} {i : Int} {d : D} (h : atI l i = some d) : atR l i = .ok (.im d) := by unfold atR; rw [h]
def chR (z : Str) (i : Int) : R RV := match atI z.cps.toList i with
 | some c => if z.length ≤ sizeLine then .ok (.im (.str ⟨#[c]⟩)) else .bad
 | none => .bad
def ixR (v : R RV) (k : R D) : R RV := match k with
 | .ok (.at (.int i)) => (match v with
  | .ok (.im (.at (.str z))) => chR z i
  | .ok (.im (.tup ds)) => atR ds i
  | .ok (.im (.lst ds)) => atR ds i
  | .ok (.fr ds) => atR ds i
  | .ok (.ro ds) => atR ds i
  | _ => .bad)
 | _ => .bad
def eIx (m k : MX) : MX := fun E => ixR (m E) (toD (k E))
theorem okv_at {l : List D} {i : Int} (h : ∀ d, atI l i = some d → EE X C ρ e d) : OKV X C ρ e (atR l i) := by
 unfold atR
 split
 ·exact h _ (by assumption)
 ·trivial
theorem em_ix (ha : EM X a ma) (hb : EM X b mb) (hp : PlainIx b := by intro _ _; rfl) : EM X (.Subscript a b pos) (eIx ma mb) := .mk fun C ρ => by
 unfold eIx
 have ha' := ha C ρ
 revert ha'
 generalize ma (frOf ρ) = r
 intro ha'
 unfold ixR
 split
 ·rename_i i q
  have hb' := hb.ee (C := C) q
  split
  ·rename_i z
   unfold chR
   split
   ·split
    ·exact ee_ixS ha' hb' (by assumption) (by assumption) hp
    ·trivial
   ·trivial
  ·exact okv_at fun d h => ee_ixT ha' hb' h hp
  ·exact okv_at fun d h => ee_ixL (EE.el ha') hb' h hp
  ·exact okv_at fun d h => ee_ixL (EF.el ha') hb' h hp
  ·exact okv_at fun d h => ee_ixL ha' hb' h hp
  ·trivial
 ·trivial
structure OM (X : Cx) (e : Option Expr) (o : Fr → R (Option Int)) : Prop where
 run : ∀ C ρ x, o (frOf ρ) = .ok x → EO X C ρ e x
instance {X : Cx} {e : Option Expr} {o : Fr → R (Option Int)} : CoeFun (OM X e o) fun _ => ∀ C ρ x, o (frOf ρ) = .ok x → EO X C ρ e x := ⟨fun h => h.run⟩
def oNone : Fr → R (Option Int) := fun _ => .ok none
def intR (r : R D) : R (Option Int) := match r with
 | .ok (.at (.int i)) => .ok (some i)
 | _ => .bad
def oSome (m : MX) : Fr → R (Option Int) := fun E => intR (toD (m E))
theorem om_none : OM X none oNone := .mk fun C ρ x q => by cases q; exact eo_none
theorem om_some (h : EM X e m) : OM X (some e) (oSome m) := .mk fun C ρ x q => by
 unfold oSome intR at q
 split at q
 ·rename_i i q1
  cases q
  exact eo_some (h.ee q1)
 ·cases q
def slR (v : R RV) (l u : R (Option Int)) : R RV := match l with
 | .ok lo => (match u with
  | .ok hi => (match v with
   | .ok (.im (.at (.str z))) => if z.length ≤ sizeLine then .ok (.im (.str (cutS z lo hi))) else .bad
   | .ok (.im (.tup ds)) => if HT.sIx ds.length 0 lo = 0 ∧ HT.sIx ds.length ds.length hi = ds.length then .bad else .ok (.im (.tup (cutD ds lo hi)))
   | .ok (.im (.lst ds)) => .ok (.fr (cutD ds lo hi))
   | .ok (.fr ds) => .ok (.fr (cutD ds lo hi))
   | .ok (.ro ds) => .ok (.fr (cutD ds lo hi))
   | _ => .bad)
  | _ => .bad)
 | _ => .bad
def eSl (m : MX) (l u : Fr → R (Option Int)) : MX := fun E => slR (m E) (l E) (u E)
theorem em_sl {lo hi : Option Expr} {l u : Fr → R (Option Int)} {p2 : Pos} (ha : EM X a ma) (hl : OM X lo l) (hu : OM X hi u) : EM X (.Subscript a (.Slice lo hi none p2) pos) (eSl ma l u) := .mk fun C ρ => by
 unfold eSl
 have ha' := ha C ρ
 revert ha'
 generalize ma (frOf ρ) = r
 intro ha'
 unfold slR
 split
 ·rename_i x q1
  have hl' := hl C ρ x q1
  split
  ·rename_i y q2
   have hu' := hu C ρ y q2
   split
   ·split
    ·exact ee_sliceS ha' hl' hu' (by assumption)
    ·trivial
   ·split
    ·trivial
    ·exact ee_sliceT ha' hl' hu' (by assumption)
   ·exact ef_slice (EE.el ha') hl' hu'
   ·exact ef_slice (EF.el ha') hl' hu'
   ·exact ef_slice ha' hl' hu'
   ·trivial
  ·trivial
 ·trivial
def eRev (m : MX) : MX := fun E => lstR (revR (toL (m E)))
where revR (l : R (List D)) : R (List D) := match l with
 | .ok ds => .ok ds.reverse
 | _ => .bad
def mapL (f : List D → R RV) (l : R (List D)) : R RV := match l with
 | .ok ds => f ds
 | _ => .bad
def lenR : R RV → R RV
 | .ok (.im (.at (.str z))) => if z.length ≤ sizeLine then .ok (.im (.int z.length)) else .bad
 | .ok (.im (.tup ds)) => .ok (.im (.int ds.length))
 | .ok (.im (.lst ds)) => .ok (.im (.int ds.length))
 | .ok (.fr ds) => .ok (.im (.int ds.length))
 | .ok (.ro ds) => .ok (.im (.int ds.length))
 | _ => .bad
def eLen (m : MX) : MX := fun E => lenR (m E)
theorem em_len {p : Pos} (hm : X.mg "len" = none) (ha : EM X e m) (hg : Gl X "len" := by rfl) (he : starEach [e] X.env = (false, eval e X.env) :: starEach [] X.env := by exact se_of rfl) : EM X (.Call (.Name "len" p) [e] [] pos) (eLen m) := .mk fun C ρ => by
 unfold eLen
 have ha' := ha C ρ
 revert ha'
 generalize m (frOf ρ) = r
 intro ha'
 unfold lenR
 split
 ·split
  ·exact ee_lenS hm ha' (by assumption) hg he
  ·trivial
 ·exact ee_lenT hm ha' hg he
 ·exact ee_lenL hm (EE.el ha') hg he
 ·exact ee_lenL hm (EF.el ha') hg he
 ·exact ee_lenL hm ha' hg he
 ·trivial
def onInts (f : List Int → R RV) (ds : List D) : R RV := match intsOf ds with
 | some ns => f ns
 | none => .bad
def sumI (ns : List Int) : R RV := .ok (.im (.int ns.sum))
def minR (ns : List Int) : R RV := match ns with
 | [] => .bad
 | _ => .ok (.im (.int (minI ns)))
def maxR (ns : List Int) : R RV := match ns with
 | [] => .bad
 | _ => .ok (.im (.int (maxI ns)))
def eSum (m : MX) : MX := fun E => mapL (onInts sumI) (toL (m E))
def eMinL (m : MX) : MX := fun E => mapL (onInts minR) (toL (m E))
def eMaxL (m : MX) : MX := fun E => mapL (onInts maxR) (toL (m E))
def seqR (f : List D → RV) : R RV → R RV
 | .ok (.im (.tup ds)) => .ok (f ds)
 | .ok (.im (.lst ds)) => .ok (f ds)
 | .ok (.fr ds) => .ok (f ds)
 | .ok (.ro ds) => .ok (f ds)
 | _ => .bad
def imTup (ds : List D) : RV := .im (.tup ds)
def eTuple (m : MX) : MX := fun E => seqR imTup (m E)
def eList (m : MX) : MX := fun E => seqR .fr (m E)
theorem em_tuple {p : Pos} (hm : X.mg "tuple" = none) (ha : EM X e m) (hg : Gl X "tuple" := by rfl) (he : starEach [e] X.env = (false, eval e X.env) :: starEach [] X.env := by exact se_of rfl) : EM X (.Call (.Name "tuple" p) [e] [] pos) (eTuple m) := .mk fun C ρ => by
 unfold eTuple
 have ha' := ha C ρ
 revert ha'
 generalize m (frOf ρ) = r
 intro ha'
 unfold seqR
 split
 ·exact ee_tupleT hm ha' hg he
 ·exact ee_tupleL hm (EE.el ha') hg he
 ·exact ee_tupleL hm (EF.el ha') hg he
 ·exact ee_tupleL hm ha' hg he
 ·trivial
def tyB (n m : String) : Bool := n == m || (n == "bool" && m == "int")
def isiR (ms : String) : R D → R RV
 | .ok d => (match d.tyN with
  | some n => .ok (.im (.bl (tyB n ms)))
  | none => .bad)
 | _ => .bad
def eIsi (m : MX) (x : String) : MX := fun E => isiR x (toA (m E))
theorem kit_ty6 {d : D} {n : String} (h : d.tyN = some n) (m : String) (hm : m = "int" ∨ m = "bool" ∨ m = "str" ∨ m = "tuple" ∨ m = "list") : kitB n m = some (tyB n m) := by
 have e : n = "NoneType" ∨ n = "bool" ∨ n = "int" ∨ n = "str" ∨ n = "tuple" ∨ n = "list" ∨ n = "dict" := by
  cases d with
  | «at» v => cases v <;> simp [D.tyN] at h <;> subst h <;> simp
  | tup l => simp [D.tyN] at h; subst h; simp
  | lst l => simp [D.tyN] at h; subst h; simp
  | exc c => simp [D.tyN] at h
  | obj _ _ _ => simp [D.tyN] at h
  | dct => simp [D.tyN] at h; subst h; simp
  | any => simp [D.tyN] at h
 rcases e with rfl | rfl | rfl | rfl | rfl | rfl | rfl <;> rcases hm with rfl | rfl | rfl | rfl | rfl <;> decide +kernel
theorem em_isi {p q : Pos} {x : Str} {n : String} (hn : X.mg x = none) (hv : bootBuiltins x = some (.type n) := by decide +kernel) (hm : n = "int" ∨ n = "bool" ∨ n = "str" ∨ n = "tuple" ∨ n = "list") (hi : X.mg "isinstance" = none) (ha : EM X a ma)
  (hgx : Gl X x := by rfl) (hnx : x ≠ "__name__" := by decide) (hdx : (x == ("__debug__" : Str)) = false := by decide) (hg : Gl X "isinstance" := by rfl) (he : starEach [a, .Name x q] X.env = (false, eval a X.env) :: starEach [.Name x q] X.env := by exact se_of rfl) (he2 : starEach [.Name x q] X.env = (false, eval (.Name x q) X.env) :: starEach [] X.env := by exact se_of rfl)
  (hpl : (backTo pos (starEach [.Name x q] X.env)).any (·.1) = false := by rfl) : EM X (.Call (.Name "isinstance" p) [a, .Name x q] [] pos) (eIsi ma n) := .mk fun C ρ => by
 unfold eIsi isiR
 split
 ·rename_i d q1
  split
  ·rename_i k q2
   have ty : EE X C ρ (.Name x q) (.at (.ty n)) := ee_ty hn hv hgx hnx hdx
   have al : EAl X C ρ [a, .Name x q] [d, .at (.ty n)] := by
    have ha' := ha C ρ
    revert ha' q1
    generalize ma (frOf ρ) = r
    intro q1 ha'
    rcases r with (d' | l | l) | z | _ <;> cases q1
    ·exact eal_cons ha' (eal_cons ty eal_nil he2) he
    ·exact eal_consL (EF.el ha') (eal_cons ty eal_nil he2) he
    ·exact eal_consL ha' (eal_cons ty eal_nil he2) he
   exact ee_isi _ hi al q2 (kit_ty6 q2 n hm) hg he hpl
  ·trivial
 ·trivial
def isxR (x : Str) (L : List (Str × Bool)) : R D → R RV
 | .ok (.exc n) => (match L.lookup n with
  | some b => .ok (.im (.bl b))
  | none => .bad)
 | _ => .bad
def eIsx (m : MX) (x : Str) (L : List (Str × Bool)) : MX := fun E => isxR x L (toD (m E))
def SubOk (K : PySem.W.Frag) (cv : Value) (L : List (Str × Bool)) : Prop := ∀ n b, L.lookup n = some b → ∃ Cl, clsOf K n = some Cl ∧ ExcC K Cl ∧ PySem.W.kitOne K (.ref Cl) cv = some b
theorem em_isx {p q : Pos} {x : Str} {v : V} {cv : Value} {L : List (Str × Bool)} (hi : X.mg "isinstance" = none) (hx : ∀ C ρ, EE X C ρ (.Name x q) (.at v)) (hk : ClsV v cv) (hL : SubOk X.K cv L) (ha : EM X a ma) (hg : Gl X "isinstance" := by rfl)
  (he : starEach [a, .Name x q] X.env = (false, eval a X.env) :: starEach [.Name x q] X.env := by exact se_of rfl) (he2 : starEach [.Name x q] X.env = (false, eval (.Name x q) X.env) :: starEach [] X.env := by exact se_of rfl) (hpl : (backTo pos (starEach [.Name x q] X.env)).any (·.1) = false := by rfl) :
  EM X (.Call (.Name "isinstance" p) [a, .Name x q] [] pos) (eIsx ma x L) := .mk fun C ρ => by
 unfold eIsx isxR
 split
 ·rename_i n q1
  split
  ·rename_i k q2
   obtain ⟨Cl, h1, h2, h3⟩ := hL n k q2
   exact ee_isX hi h1 h2 (ha.ee q1) (hx C ρ) hk h3 hg he he2 hpl
  ·trivial
 ·trivial
def retV : R Ret → R RV
 | .ok (.im d) => .ok (.im d)
 | .ok (.fr ds) => .ok (.fr ds)
 | .ok (.up _ _) => .bad
 | .er n => .er n
 | .bad => .bad
def resOf : R Ret → Res
 | .ok r => .ok r
 | .er n => .er n
 | .bad => .ok (.im .non)
def notBad {α : Type} (r : R α) : Prop := match r with
 | .bad => False
 | _ => True
abbrev spM (K : PySem.W.Frag) (n : Nat) (f : List D → R Ret) : Sp := spF K (fun y : { l : List D // l.length = n } => y.1) (fun y => notBad (f y.1)) fun y => resOf (f y.1)
def callR (f : List D → R Ret) (l : R (List D)) : R RV := match l with
 | .ok ds => retV (f ds)
 | _ => .bad
def eCall (f : List D → R Ret) (ma : Fr → R (List D)) : MX := fun E => callR f (ma E)
variable {k n : Nat} {x : Str} {ps : List Str} {f : List D → R Ret}
theorem em_call {mr : Fr → R (List D)} (F : CalX X.prog X.w X.K X.mg X.base k x ps (spM X.K n f)) (hr : Room k X.A) (h : AM X (e :: es) mr) (hn : (e :: es).length = n := by rfl) (hg : Gl X x := by rfl) (hdb : (x == ("__debug__" : Str)) = false := by decide)
  (he : starEach (e :: es) X.env = (false, eval e X.env) :: starEach es X.env := by exact se_of rfl) (hpl : (backTo pos (starEach es X.env)).any (·.1) = false := by rfl) : EM X (.Call (.Name x p) (e :: es) [] pos) (eCall f mr) := .mk fun C ρ => by
 unfold eCall callR
 split
 ·rename_i ds q
  obtain ⟨h1, h2⟩ := h C ρ ds q
  have hl : ds.length = n := h2.trans hn
  cases qf : f ds with
  | ok r =>
   cases r with
   | up _ _ => trivial
   | im d => exact ee_call (arg := fun y : { l : List D // l.length = n } => y.1) ⟨ds, hl⟩ F.cal hr h1 (by show notBad (f ds); rw [qf]; trivial) (by show resOf (f ds) = _; rw [qf]; rfl) hg hdb he hpl
   | fr l => exact ef_call (arg := fun y : { l : List D // l.length = n } => y.1) ⟨ds, hl⟩ F.cal hr h1 (by show notBad (f ds); rw [qf]; trivial) (by show resOf (f ds) = _; rw [qf]; rfl) hg hdb he hpl
  | er z => exact ex_call (arg := fun y : { l : List D // l.length = n } => y.1) ⟨ds, hl⟩ F hr h1 (by show notBad (f ds); rw [qf]; trivial) (by show resOf (f ds) = _; rw [qf]; rfl) hg hdb he hpl
  | bad => trivial
 ·trivial
def Tupl (G1 G2 : Hp) : Prop := ∀ a xs, G1 a = some (.tup xs) → G2 a = some (.tup xs)
end
section
variable {K : PySem.W.Frag} {G1 G2 : Hp}
mutual
theorem Rep.noL (h : Tupl G1 G2) : ∀ (d : D) {v : V}, d.noL = true → Rep K G1 v d → Rep K G2 v d
 | .at w, v, _, r => by cases r; exact .at _
 | .tup ds, v, o, r => by
  cases r with
  | tup s r => exact .tup (h _ _ s) (Reps.noL h ds o r)
 | .lst _, _, o, _ => by cases o
 | .exc _, _, o, _ => by cases o
 | .obj _ _ _, _, o, _ => by cases o
 | .dct, _, o, _ => by cases o
 | .any, _, o, _ => by cases o
theorem Reps.noL (h : Tupl G1 G2) : ∀ (ds : List D) {vs : List V}, D.noLs ds = true → Reps K G1 vs ds → Reps K G2 vs ds
 | [], _, _, r => by cases r; exact .nil
 | d :: ds, _, o, r => by
  cases r with
  | cons r rs =>
   have o' : (D.noL d && D.noLs ds) = true := o
   rw [Bool.and_eq_true] at o'
   exact .cons (Rep.noL h d o'.1 r) (Reps.noL h ds o'.2 rs)
end
end
section
variable {X : Cx} {C : Ctx} {ρ : Rho} {e a b c : Expr} {es : List Expr} {m ma mb mc : MX} {d : D} {ds : List D} {pos p : Pos} {t : Fr → R Bool}
def visA (C : Ctx) (o : List Addr) (H : Hp) : Hp := fun b => if b ∈ o then H b else vis C o H b
def EV (X : Cx) (C : Ctx) (ρ : Rho) (es : List Expr) (ds : List D) : Prop :=
 ∀ σ H, SRel X.K C H σ ρ → ∀ Q : List V → Hp → Prop, (∀ vs H', Same H H' → Reps X.K (visA C (ows ρ) H') vs ds → Q vs H') → wpA X es σ H Q
structure VM (X : Cx) (es : List Expr) (ma : Fr → R (List D)) : Prop where
 run : ∀ C ρ ds, ma (frOf ρ) = .ok ds → EV X C ρ es ds ∧ ds.length = es.length
instance {X : Cx} {es : List Expr} {ma : Fr → R (List D)} : CoeFun (VM X es ma) fun _ => ∀ C ρ ds, ma (frOf ρ) = .ok ds → EV X C ρ es ds ∧ ds.length = es.length := ⟨fun h => h.run⟩
def retN : R Ret → R RV
 | .ok (.im d) => if d.noL = true then .ok (.im d) else .bad
 | .ok (.fr ds) => if D.noLs ds = true then .ok (.fr ds) else .bad
 | .ok (.up _ _) => .bad
 | .er n => .er n
 | .bad => .bad
def callN (f : List D → R Ret) (l : R (List D)) : R RV := match l with
 | .ok ds => retN (f ds)
 | _ => .bad
def eCallO (f : List D → R Ret) (ma : Fr → R (List D)) : MX := fun E => callN f (ma E)
variable {k n : Nat} {x : Str} {ps : List Str} {f : List D → R Ret}
def nonD (l : R (List D)) : R (List D) := match l with
 | .ok ds => .ok (ds ++ [.non])
 | _ => .bad
def imOnly : R RV → R RV
 | .ok (.im d) => .ok (.im d)
 | _ => .bad
def eCallD (f : List D → R Ret) (ma : Fr → R (List D)) : MX := fun E => imOnly (callR f (nonD (ma E)))
def snocR (l : R (List D)) (d : R D) : R (List D) := match l with
 | .ok ds => (match d with
  | .ok x => .ok (ds ++ [x])
  | _ => .bad)
 | _ => .bad
def eCallK (f : List D → R Ret) (ma : Fr → R (List D)) (mk : MX) : MX := fun E => imOnly (callR f (snocR (ma E) (toD (mk E))))
end
end DL
namespace DL
open PySem PySem.Spec PyProof.Rows L2
section
variable {X : Cx} {C : Ctx} {ρ : Rho} {e a b c tg iter : Expr} {es : List Expr} {m ma mb mc : MX} {d : D} {ds : List D} {pos p : Pos} {t : Fr → R Bool} {P : Post} {sts : List Stmt} {f g : Fr → R Bool}
structure IM (X : Cx) (tg iter : Expr) (mi : Fr → R (List D)) : Prop where
 run : ∀ C ρ ds, mi (frOf ρ) = .ok ds → EI X C ρ tg iter ds
instance {X : Cx} {tg iter : Expr} {mi : Fr → R (List D)} : CoeFun (IM X tg iter mi) fun _ => ∀ C ρ ds, mi (frOf ρ) = .ok ds → EI X C ρ tg iter ds := ⟨fun h => h.run⟩
def itR : R RV → R (List D)
 | .ok (.im (.at (.str z))) => .ok (signsD z)
 | .ok (.im (.tup ds)) => .ok ds
 | .ok (.im (.lst ds)) => .ok ds
 | .ok (.fr ds) => .ok ds
 | _ => .bad
def iVal (m : MX) : Fr → R (List D) := fun E => itR (m E)
theorem im_val (h : EM X e m) : IM X tg e (iVal m) := .mk fun C ρ ds q => by
 have h' := h C ρ
 unfold iVal at q
 revert h' q
 generalize m (frOf ρ) = r
 intro q h'
 unfold itR at q
 split at q
 ·cases q; exact ei_str h'
 ·cases q; exact ei_tup h'
 ·cases q; exact ei_list h'
 ·cases q; exact ei_list (EF.ee h')
 ·cases q
def rng1 : R D → R (List D)
 | .ok (.at (.int n)) => if -(2 ^ 62) ≤ n ∧ n < 2 ^ 62 then .ok (rngD 0 n.toNat) else .bad
 | _ => .bad
def iRange1 (m : MX) : Fr → R (List D) := fun E => rng1 (toD (m E))
theorem im_range1 (hm : X.mg "range" = none) (h : EM X e m) (hg : Gl X "range" := by rfl) (hs : starEach [e] X.env = [(false, eval e X.env)] := by rfl) : IM X tg (.Call (.Name "range" p) [e] [] pos) (iRange1 m) := .mk fun C ρ ds q => by
 unfold iRange1 rng1 at q
 split at q
 ·rename_i n q1
  split at q
  ·rename_i hn
   cases q
   exact ei_range1 hm (h.ee q1) hn.1 hn.2 hg hs
  ·cases q
 ·cases q
def rng2 : R D → R D → R (List D)
 | .ok (.at (.int i)), .ok (.at (.int j)) => if -(2 ^ 62) ≤ i ∧ i < 2 ^ 62 ∧ -(2 ^ 62) ≤ j ∧ j < 2 ^ 62 then .ok (rngD i (j - i).toNat) else .bad
 | _, _ => .bad
def iRange2 (ma mb : MX) : Fr → R (List D) := fun E => rng2 (toD (ma E)) (toD (mb E))
open Classical in
noncomputable def rng3 : R D → R D → R D → R (List D)
 | .ok (.at (.int i)), .ok (.at (.int j)), .ok (.at (.int c)) => if RgC i j c (Builtin.Range.rangeSize i j c).toNat then .ok (rngDc i c (Builtin.Range.rangeSize i j c).toNat) else .bad
 | _, _, _ => .bad
noncomputable def iRange3 (ma mb mc : MX) : Fr → R (List D) := fun E => rng3 (toD (ma E)) (toD (mb E)) (toD (mc E))
def setsF : Fr → List (Nat × D) → Fr
 | E, [] => E
 | E, (i, d) :: ss => setsF (setS E i (.im d)) ss
def setsR : Rho → List (Nat × D) → Rho
 | ρ, [] => ρ
 | ρ, (i, d) :: ss => setsR (ρ.set i (.im d)) ss
theorem frOf_sets : ∀ (ss : List (Nat × D)) (ρ : Rho), frOf (setsR ρ ss) = setsF (frOf ρ) ss
 | [], _ => rfl
 | (i, d) :: ss, ρ => by
  rw [setsR, setsF, frOf_sets ss, frOf_set]
  rfl
theorem setsR_app : ∀ (ss rs : List (Nat × D)) (ρ : Rho), setsR ρ (ss ++ rs) = setsR (setsR ρ ss) rs
 | [], _, _ => rfl
 | (i, d) :: ss, rs, ρ => by
  show setsR (ρ.set i (.im d)) (ss ++ rs) = _
  rw [setsR_app ss rs]
  rfl
structure GM (X : Cx) (tg : Expr) (g : D → R (List (Nat × D))) (L : List Nat) : Prop where
 run : ∀ C ρ d ss, g d = .ok ss → GT X C ρ tg d (setsR ρ ss) L ∧ ∀ q ∈ ss, q.1 ∈ L
instance {X : Cx} {tg : Expr} {g : D → R (List (Nat × D))} {L : List Nat} : CoeFun (GM X tg g L) fun _ => ∀ C ρ d ss, g d = .ok ss → GT X C ρ tg d (setsR ρ ss) L ∧ ∀ q ∈ ss, q.1 ∈ L := ⟨fun h => h.run⟩
structure GsM (X : Cx) (ts : List Expr) (gs : List D → R (List (Nat × D))) (L : List Nat) : Prop where
 run : ∀ C ρ ds ss, gs ds = .ok ss → GTs X C ρ ts ds (setsR ρ ss) L ∧ ds.length = ts.length ∧ ∀ q ∈ ss, q.1 ∈ L
instance {X : Cx} {ts : List Expr} {gs : List D → R (List (Nat × D))} {L : List Nat} : CoeFun (GsM X ts gs L) fun _ => ∀ C ρ ds ss, gs ds = .ok ss → GTs X C ρ ts ds (setsR ρ ss) L ∧ ds.length = ts.length ∧ ∀ q ∈ ss, q.1 ∈ L := ⟨fun h => h.run⟩
def gName (i : Nat) (d : D) : R (List (Nat × D)) := .ok [(i, d)]
def gNil (ds : List D) : R (List (Nat × D)) := match ds with
 | [] => .ok []
 | _ => .bad
def appR (x y : R (List (Nat × D))) : R (List (Nat × D)) := match x with
 | .ok xs => (match y with
  | .ok ys => .ok (xs ++ ys)
  | _ => .bad)
 | _ => .bad
def gCons (g : D → R (List (Nat × D))) (gs : List D → R (List (Nat × D))) (ds : List D) : R (List (Nat × D)) := match ds with
 | d :: ds => appR (g d) (gs ds)
 | [] => .bad
def gTup (gs : List D → R (List (Nat × D))) (d : D) : R (List (Nat × D)) := match d with
 | .tup ds => gs ds
 | .lst ds => gs ds
 | _ => .bad
theorem gm_name (i : Nat) {x : Str} (hN : X.N.Nodup) (hi : X.N[i]? = some x := by rfl) (hx : Loc X.env.scope x := by first | exact Or.inl rfl | exact Or.inr rfl) (hf : X.fn x = true ∨ X.env.scope.names.lookup x = some .local := by first | exact .inl rfl | exact .inr rfl) : GM X (.Name x pos) (gName i) [i] := .mk fun C ρ d ss q => by
 cases q
 exact ⟨gt_name i hN rfl hi hx hf, fun q hq => by rw [List.mem_singleton.mp hq]; simp⟩
theorem gsm_nil : GsM X [] gNil [] := .mk fun C ρ ds ss q => by
 unfold gNil at q
 split at q
 ·cases q; exact ⟨gts_nil, rfl, fun q hq => by cases hq⟩
 ·cases q
theorem gsm_cons {g : D → R (List (Nat × D))} {gs : List D → R (List (Nat × D))} {L L' : List Nat} {tgs : List Expr} (h1 : GM X tg g L) (h2 : GsM X tgs gs L') (hs : (assignEach (tg :: tgs) X.env).map (·.2) = assign tg X.env :: (assignEach tgs X.env).map (·.2) := by rfl) : GsM X (tg :: tgs) (gCons g gs) (L ++ L') := .mk fun C ρ ds ss q => by
 unfold gCons at q
 split at q
 ·rename_i d ds
  unfold appR at q
  split at q
  ·rename_i xs q1
   split at q
   ·rename_i ys q2
    cases q
    obtain ⟨a1, a2⟩ := h1 C ρ d xs q1
    obtain ⟨b1, b2, b3⟩ := h2 C (setsR ρ xs) ds ys q2
    rw [setsR_app]
    exact ⟨gts_cons a1 b1 hs, congrArg (· + 1) b2, fun q hq => List.mem_append.mpr ((List.mem_append.mp hq).imp (a2 q) (b3 q))⟩
   ·cases q
  ·cases q
 ·cases q
theorem gm_tup {gs : List D → R (List (Nat × D))} {kk : Nat} {L : List Nat} {tgs : List Expr} (h : GsM X tgs gs L) (hc : X.calm = true := by rfl) (hn : (assignEach tgs X.env).length = tgs.length := by rfl) (hst : (assignEach tgs X.env).findIdx? (·.1) = none := by rfl) : GM X (.Tuple tgs kk pos) (gTup gs) L := .mk fun C ρ d ss q => by
 unfold gTup at q
 split at q
 ·obtain ⟨h1, h2, h3⟩ := h C ρ _ ss q
  exact ⟨gt_tup h1 hc (hn.trans h2.symm) hst, h3⟩
 ·obtain ⟨h1, h2, h3⟩ := h C ρ _ ss q
  exact ⟨gt_lst h1 hc (hn.trans h2.symm) hst, h3⟩
 ·cases q
inductive O where
 | nx (E : Fr)
 | rt (r : Ret)
 | bk (E : Fr)
 | ct (E : Fr)
 | er (n : Str) (E : Fr)
 | bad
def OkO (P : Post) : O → Prop
 | .nx E => ∀ ρ, frOf ρ = E → P.nx ρ
 | .rt r => P.rt r
 | .bk E => ∀ ρ, frOf ρ = E → P.bk ρ
 | .ct E => ∀ ρ, frOf ρ = E → P.ct ρ
 | .er n E => ∀ ρ, frOf ρ = E → P.er n ρ
 | .bad => False
structure SM (X : Cx) (st : Stmt) (f : Fr → O) : Prop where
 run : ∀ C ρ P, OkO P (f (frOf ρ)) → WS X C ρ st P
instance {X : Cx} {st : Stmt} {f : Fr → O} : CoeFun (SM X st f) fun _ => ∀ C ρ P, OkO P (f (frOf ρ)) → WS X C ρ st P := ⟨fun h => h.run⟩
structure BM (X : Cx) (sts : List Stmt) (f : Fr → O) : Prop where
 run : ∀ C ρ P, OkO P (f (frOf ρ)) → WP X C ρ sts P
instance {X : Cx} {sts : List Stmt} {f : Fr → O} : CoeFun (BM X sts f) fun _ => ∀ C ρ P, OkO P (f (frOf ρ)) → WP X C ρ sts P := ⟨fun h => h.run⟩
def O.then (o : O) (g : Fr → O) : O := match o with
 | .nx E => g E
 | o => o
def sq (f g : Fr → O) : Fr → O := fun E => (f E).then g
theorem bm_nil : BM X [] .nx := .mk fun C ρ P h => wp_nil (h ρ rfl)
theorem bm_cons {st : Stmt} {f g : Fr → O} (h : SM X st f) (k : BM X sts g) : BM X (st :: sts) (sq f g) := .mk fun C ρ P ok => wp_cons (h C ρ _ (by
 unfold sq at ok
 revert ok
 generalize f (frOf ρ) = o
 intro ok
 cases o with
 | nx E => exact fun ρ' e => k C ρ' P (by rw [e]; exact ok)
 | rt r => exact ok
 | bk E => exact ok
 | ct E => exact ok
 | er n E => exact ok
 | bad => exact ok))
def frz (E : Fr) (i : Nat) : Fr := match nthS E i with
 | .ow ds => setS E i (.im (.lst ds))
 | .ot d => setS E i (.im d)
 | _ => E
theorem nth_ot {ρ : Rho} {i : Nat} {d : D} (h : nthS (frOf ρ) i = .ot d) : ∃ as, ρ[i]? = some (.ot as d) := by
 rw [frOf_nth] at h
 cases q : ρ[i]? with
 | none => rw [q] at h; cases h
 | some e =>
  rw [q] at h
  cases e with
  | ot as d' => cases h; exact ⟨as, rfl⟩
  | _ => cases h
theorem wp_thaw {X : Cx} {C : Ctx} {ρ ρ' : Rho} {sts : List Stmt} {P : Post} {d : D} {as : List Addr} (i : Nat) (hr : ρ[i]? = some (.ot as d)) (hρ : ρ.set i (.im d) = ρ') (h : WP X C ρ' sts P) : WP X C ρ sts P := fun σ H D S L => by
 subst hρ
 obtain ⟨S2, s2⟩ := S.thaw i hr
 exact h σ H D S2 (L.later s2)
def frzs (E : Fr) : List Nat → Fr
 | [] => E
 | i :: is => frzs (frz E i) is
theorem bm_frz1 {f : Fr → O} (i : Nat) (h : BM X sts f) : BM X sts (fun E => f (frz E i)) := .mk fun C ρ P ok => by
 have ok' : OkO P (f (frz (frOf ρ) i)) := ok
 unfold frz at ok'
 split at ok'
 ·rename_i ds q
  obtain ⟨a, hr⟩ := nth_ow q
  exact wp_freeze i hr rfl (h C _ P (by rw [frOf_set]; exact ok'))
 ·rename_i d q
  obtain ⟨as, hr⟩ := nth_ot q
  exact wp_thaw i hr rfl (h C _ P (by rw [frOf_set]; exact ok'))
 ·exact h C ρ P ok'
theorem bm_frz {f : Fr → O} (h : BM X sts f) : ∀ is : List Nat, BM X sts (fun E => f (frzs E is))
 | [] => h
 | i :: is => bm_frz1 i (bm_frz h is)
def sPass : Fr → O := .nx
def sBreak : Fr → O := .bk
def sContinue : Fr → O := .ct
def onV (r : R RV) (E : Fr) (k : RV → O) : O := match r with
 | .ok v => k v
 | .er n => .er n E
 | .bad => .bad
def sDrop (m : MX) : Fr → O := fun E => onV (m E) E fun v => match v with
 | .ro _ => .bad
 | _ => .nx E
theorem sm_drop (h : EM X e m) (hs : swapsWith e none pos.line X.env = pure false := by rfl) : SM X (.Expr e pos) (sDrop m) := .mk fun C ρ P ok => by
 have h' := h C ρ
 unfold sDrop at ok
 revert h' ok
 generalize m (frOf ρ) = r
 intro ok h'
 rcases r with (d | ds | ds) | n | _
 ·exact ws_drop h' (ok ρ rfl) hs
 ·exact ws_drop (EF.ee h') (ok ρ rfl) hs
 ·exact ok.elim
 ·exact ex_drop h' (ok ρ rfl) hs
 ·exact ok.elim
def sRet (m : MX) : Fr → O := fun E => onV (m E) E fun v => match v with
 | .im d => .rt (.im d)
 | .fr ds => .rt (.fr ds)
 | .ro _ => .bad
theorem sm_ret (h : EM X e m) : SM X (.Return (some e) pos) (sRet m) := .mk fun C ρ P ok => by
 have h' := h C ρ
 unfold sRet at ok
 revert h' ok
 generalize m (frOf ρ) = r
 intro ok h'
 rcases r with (d | ds | ds) | n | _
 ·exact ws_ret h' ok
 ·exact ws_retF h' ok
 ·exact ok.elim
 ·exact ex_ret h' (ok ρ rfl)
 ·exact ok.elim
def sRetV (i : Nat) : Fr → O := fun E => match nthS E i with
 | .im d => .rt (.im d)
 | .ow ds => .rt (.fr ds)
 | _ => .bad
theorem sm_retV (i : Nat) {x : Str} {p1 : Pos} (hN : X.N[i]? = some x := by rfl) (hv : Vis X.env.scope x := by first | exact Or.inl rfl | exact Or.inr (Or.inl rfl) | exact Or.inr (Or.inr rfl))
  (hd : (x == ("__debug__" : Str)) = false := by decide) (hcd : (x == ("__classdict__" : Str)) = false := by decide) : SM X (.Return (some (.Name x p1)) pos) (sRetV i) := .mk fun C ρ P ok => by
 unfold sRetV at ok
 split at ok
 ·rename_i d q
  exact ws_ret (ee_var i hN (nth_im q) hv hd hcd) ok
 ·rename_i ds q
  obtain ⟨a, hr⟩ := nth_ow q
  exact ws_retO i hr ok hN hv hd hcd
 ·exact ok.elim
def sRetN : Fr → O := fun _ => .rt (.im .non)
def ifO (b : R Bool) (x y : O) : O := match b with
 | .ok true => x
 | .ok false => y
 | _ => .bad
def sIf (t : Fr → R Bool) (f g : Fr → O) : Fr → O := fun E => ifO (t E) (f E) (g E)
theorem sm_if {ts us : List Stmt} {f g : Fr → O} (h : TM X c t) (h1 : BM X ts f) (h2 : BM X us g) : SM X (.If c ts us pos) (sIf t f g) := .mk fun C ρ P ok => by
 unfold sIf ifO at ok
 split at ok
 ·rename_i q
  exact ws_if (h C ρ _ q) (fun _ => h1 C ρ P ok) fun z => nomatch z
 ·rename_i q
  exact ws_if (h C ρ _ q) (fun z => nomatch z) fun _ => h2 C ρ P ok
 ·exact ok.elim
theorem ws_setF' (i : Nat) {x : Str} {p' : Pos} (he : EF X C ρ e ds) (h : ∀ a, P.nx (ρ.set i (.ow a ds))) (hN : X.N.Nodup) (hi : X.N[i]? = some x := by rfl) (hx : Loc X.env.scope x := by first | exact Or.inl rfl | exact Or.inr rfl) (hs : swapsWith e (some (.Name x p')) pos.line X.env = pure false := by rfl)
  (hf : X.fn x = true ∨ X.env.scope.names.lookup x = some .local := by first | exact .inl rfl | exact .inr rfl) : WS X C ρ (.Assign [.Name x p'] e pos) P := fun σ H D S L => by
 refine wpS_of (ps_set hN hi hx pe_wp hs hf) (he σ H S _ fun a xs H1 n s1 l r1 => ?_)
 by_cases hl : i < ρ.length
 ·obtain ⟨S2, s2⟩ := S.setOw i hl n s1 l r1
  exact L.nx _ _ H1 (h a) S2 s2
 ·have h' := h a
  rw [set_oob hl] at h'
  show D.nx (σ.set i (some (.ref a))) H1
  rw [set_oobS (by rw [S.len]; exact hl)]
  exact L.nx _ _ H1 h' (S.same s1) (vis_same s1)
def sSet (i : Nat) (m : MX) : Fr → O := fun E => onV (m E) E fun v => match v with
 | .im d => .nx (setS E i (.im d))
 | .fr ds => .nx (setS E i (.im (.lst ds)))
 | .ro _ => .bad
def sSetO (i : Nat) (m : MX) : Fr → O := fun E => onV (m E) E fun v => match v with
 | .im d => .nx (setS E i (.im d))
 | .fr ds => .nx (setS E i (.ow ds))
 | .ro _ => .bad
theorem sm_set (i : Nat) {x : Str} {p' : Pos} (h : EM X e m) (hN : X.N.Nodup) (hi : X.N[i]? = some x := by rfl) (hx : Loc X.env.scope x := by first | exact Or.inl rfl | exact Or.inr rfl) (hs : swapsWith e (some (.Name x p')) pos.line X.env = pure false := by rfl)
  (hf : X.fn x = true ∨ X.env.scope.names.lookup x = some .local := by first | exact .inl rfl | exact .inr rfl) : SM X (.Assign [.Name x p'] e pos) (sSet i m) := .mk fun C ρ P ok => by
 have h' := h C ρ
 unfold sSet at ok
 revert h' ok
 generalize m (frOf ρ) = r
 intro ok h'
 rcases r with (d | ds | ds) | n | _
 ·exact ws_set i h' rfl (ok _ (frOf_set ..)) hN hi hx hs hf
 ·exact ws_set i (EF.ee h') rfl (ok _ (frOf_set ..)) hN hi hx hs hf
 ·exact ok.elim
 ·exact ex_set i h' (ok ρ rfl) hN hi hx hs hf
 ·exact ok.elim
theorem sm_setO (i : Nat) {x : Str} {p' : Pos} (h : EM X e m) (hN : X.N.Nodup) (hi : X.N[i]? = some x := by rfl) (hx : Loc X.env.scope x := by first | exact Or.inl rfl | exact Or.inr rfl) (hs : swapsWith e (some (.Name x p')) pos.line X.env = pure false := by rfl)
  (hf : X.fn x = true ∨ X.env.scope.names.lookup x = some .local := by first | exact .inl rfl | exact .inr rfl) : SM X (.Assign [.Name x p'] e pos) (sSetO i m) := .mk fun C ρ P ok => by
 have h' := h C ρ
 unfold sSetO at ok
 revert h' ok
 generalize m (frOf ρ) = r
 intro ok h'
 rcases r with (d | ds | ds) | n | _
 ·exact ws_set i h' rfl (ok _ (frOf_set ..)) hN hi hx hs hf
 ·exact ws_setF' i h' (fun a => ok _ (frOf_set ..)) hN hi hx hs hf
 ·exact ok.elim
 ·exact ex_set i h' (ok ρ rfl) hN hi hx hs hf
 ·exact ok.elim
def asg1 (g : D → R (List (Nat × D))) (E : Fr) (d : D) : O := match g d with
 | .ok ss => .nx (setsF E ss)
 | _ => .bad
def sAsg (g : D → R (List (Nat × D))) (m : MX) : Fr → O := fun E => onV (m E) E fun v => match v with
 | .im d => asg1 g E d
 | .fr ds => asg1 g E (.lst ds)
 | .ro _ => .bad
theorem sm_asg {g : D → R (List (Nat × D))} {L : List Nat} (h : EM X e m) (hg : GM X tg g L) (hs : swapsWithSole [tg] e pos.line X.env = pure false := by rfl) (hw : swappedStores [tg] e X.env = pure none := by rfl) (h1 : (assignEach [tg] X.env).map (·.2) = [assign tg X.env] := by rfl) : SM X (.Assign [tg] e pos) (sAsg g m) := .mk fun C ρ P ok => by
 have h' := h C ρ
 unfold sAsg at ok
 revert h' ok
 generalize m (frOf ρ) = r
 intro ok h'
 have go : ∀ d, EE X C ρ e d → OkO P (asg1 g (frOf ρ) d) → WS X C ρ (.Assign [tg] e pos) P := fun d he ok => by
  unfold asg1 at ok
  split at ok
  ·rename_i ss q
   exact ws_asg he (hg C ρ d ss q).1 (ok _ (frOf_sets ..)) hs hw h1
  ·exact ok.elim
 rcases r with (d | ds | ds) | n | _
 ·exact go d h' ok
 ·exact go _ (EF.ee h') ok
 ·exact ok.elim
 ·exact ex_asg h' pg_wp (ok ρ rfl) hs hw h1
 ·exact ok.elim
def sPar (i j : Nat) (ma : Fr → R (List D)) : Fr → O := fun E => match ma E with
 | .ok [d1, d2] => .nx (setS (setS E i (.im d1)) j (.im d2))
 | _ => .bad
theorem sm_par (i j : Nat) {x y : Str} {px py pt pt2 : Pos} {kt k2 : Nat} {mr : Fr → R (List D)} (ha : AM X [a, b] mr) (hN : X.N.Nodup) (hc : X.calm = true := by rfl) (hi : X.N[i]? = some x := by rfl) (hj : X.N[j]? = some y := by rfl) (hij : i ≠ j := by decide)
  (hx : X.env.scope.names.lookup x = some .local := by rfl) (hy : X.env.scope.names.lookup y = some .local := by rfl) (hw : swappedStores [.Tuple [.Name x px, .Name y py] kt pt] (.Tuple [a, b] k2 pt2) X.env = pure (some [x, y]) := by rfl)
  (hs : swapsWithSole [.Tuple [.Name x px, .Name y py] kt pt] (.Tuple [a, b] k2 pt2) pos.line X.env = pure false := by rfl) : SM X (.Assign [.Tuple [.Name x px, .Name y py] kt pt] (.Tuple [a, b] k2 pt2) pos) (sPar i j mr) := .mk fun C ρ P ok => by
 unfold sPar at ok
 split at ok
 ·rename_i d1 d2 q
  exact ws_par i j (ha C ρ _ q).1 rfl (ok _ (by rw [frOf_set, frOf_set]; rfl)) hN hc hi hj hij hx hy hw hs
 ·exact ok.elim
def sAug (i : Nat) (m : MX) : Fr → O := fun E => match nthS E i with
 | .im (.at (.int n)) => (match toD (m E) with
  | .ok (.at (.int k)) => .nx (setS E i (.im (.int (n + k))))
  | _ => .bad)
 | _ => .bad
def sApp (i : Nat) (m : MX) : Fr → O := fun E => match nthS E i with
 | .ow ds => (match toD (m E) with
  | .ok d => if ds.length < sizeLine then .nx (setS E i (.ow (ds ++ [d]))) else .bad
  | _ => .bad)
 | _ => .bad
theorem sm_app (i : Nat) {x : Str} {p1 p2 p3 : Pos} (h : EM X e m) (hN : X.N[i]? = some x := by rfl) (hv : Vis X.env.scope x := by first | exact Or.inl rfl | exact Or.inr (Or.inl rfl) | exact Or.inr (Or.inr rfl)) (hs : swapsWith (.Call (.Attribute (.Name x p1) "append" p2) [e] [] p3) none pos.line X.env = pure false := by rfl)
  (hfew : ((backTo p3 (starEach [e] X.env)).all (fun x => !x.1) && (backToKw p3 (keywordEach [] X.env)).all (fun x => x.1.isSome) && decide (([e]).length + ([] : List Keyword).length + (if ([] : List Keyword).isEmpty then 0 else 1) < 30)) = true := by rfl)
  (hline : (p2.endLine == p3.line) = true := by rfl) (he1 : starEach [e] X.env = (false, eval e X.env) :: starEach [] X.env := by exact se_of rfl) (hd : (x == ("__debug__" : Str)) = false := by decide) (hcd : (x == ("__classdict__" : Str)) = false := by decide) : SM X (.Expr (.Call (.Attribute (.Name x p1) "append" p2) [e] [] p3) pos) (sApp i m) := .mk fun C ρ P ok => by
 unfold sApp at ok
 split at ok
 ·rename_i ds q
  split at ok
  ·rename_i d q2
   split at ok
   ·obtain ⟨l, hr⟩ := nth_ow q
    exact ws_app i hr (h.ee q2) (by assumption) rfl (ok _ (frOf_set ..)) hN hv hs hfew hline he1 hd hcd
   ·exact ok.elim
  ·exact ok.elim
 ·exact ok.elim
def sSetIx (i : Nat) (mk m : MX) : Fr → O := fun E => match nthS E i with
 | .ow ds => (match toD (mk E) with
  | .ok (.at (.int j)) => (match ixN ds.length j with
   | some n => (match toD (m E) with
    | .ok d => .nx (setS E i (.ow (ds.set n d)))
    | _ => .bad)
   | none => .bad)
  | _ => .bad)
 | _ => .bad
def sPop (i : Nat) : Fr → O := fun E => match nthS E i with
 | .ow ds => if ds.isEmpty = true then .bad else .nx (setS E i (.ow ds.dropLast))
 | _ => .bad
def sRaise (n : Str) : Fr → O := .er n
theorem sm_raise {x m : Str} {Cl : Addr} {j : Nat} {p p2 p3 : Pos} (T : ExcT X.K X.mg x Cl) (hc : X.calm = true := by rfl) (hg : Gl X x := by rfl) (hdb : (x == ("__debug__" : Str)) = false := by decide) : SM X (.Raise (some (.Call (.Name x p) [.Constant (.str m) j p2] [] p3)) none pos) (sRaise x) := .mk fun C ρ P ok => ws_raise T (ok ρ rfl) hc hg hdb
def nextO (o : O) (k : Fr → O) : O := match o with
 | .nx E => k E
 | .ct E => k E
 | .bk E => .nx E
 | o => o
def forN (g : D → R (List (Nat × D))) (f : Fr → O) : List D → Fr → O
 | [], E => .nx E
 | d :: ds, E => match g d with
  | .ok ss => nextO (f (setsF E ss)) (forN g f ds)
  | _ => .bad
def sFor (g : D → R (List (Nat × D))) (mi : Fr → R (List D)) (f : Fr → O) : Fr → O := fun E => match mi E with
 | .ok ds => forN g f ds E
 | _ => .bad
theorem sm_for {g : D → R (List (Nat × D))} {L : List Nat} {mi : Fr → R (List D)} {body : List Stmt} {f : Fr → O} (hp : PassesOwn (model X.prog X.w) X.A X.env X.xe) (hg : GM X tg g L) (hi : IM X tg iter mi) (hb : BM X body f) (hc : X.calm = true := by rfl) (hf : ∀ x, foldedSetIterable iter X.env x = pure x := by intro _; rfl) :
  SM X (.For tg iter body [] pos) (sFor g mi f) := .mk fun C ρ P ok => by
 unfold sFor at ok
 split at ok
 ·rename_i ds q
  generalize ho : forN g f ds (frOf ρ) = o at ok
  refine ws_for (fun i ρ' => forN g f (ds.drop i) (frOf ρ') = o) hp (hi C ρ ds q) (by rw [List.drop_zero]; exact ho) (fun i d ρ' hd iv => ?_) (fun ρ' iv => ?_) hc hf
  ·have hlt := (List.getElem?_eq_some_iff.mp hd).1
   have hdr : ds.drop i = d :: ds.drop (i + 1) := by
    rw [List.drop_eq_getElem_cons hlt, (List.getElem?_eq_some_iff.mp hd).2]
   rw [hdr, forN] at iv
   split at iv
   ·rename_i ss q2
    refine ⟨_, L, (hg C ρ' d ss q2).1, hb C _ _ ?_⟩
    rw [frOf_sets]
    revert iv
    generalize f (setsF (frOf ρ') ss) = o1
    intro iv
    cases o1 with
    | nx E => exact fun ρ2 e => by show forN g f (ds.drop (i + 1)) (frOf ρ2) = o; rw [e]; exact iv
    | ct E => exact fun ρ2 e => by show forN g f (ds.drop (i + 1)) (frOf ρ2) = o; rw [e]; exact iv
    | rt r => have iv' : O.rt r = o := iv; subst iv'; exact ok
    | bk E => have iv' : O.nx E = o := iv; subst iv'; exact ok
    | er n E => have iv' : O.er n E = o := iv; subst iv'; exact ok
    | bad => have iv' : O.bad = o := iv; subst iv'; exact ok
   ·subst iv
    exact ok.elim
  ·rw [List.drop_length] at iv
   have iv' : O.nx (frOf ρ') = o := iv
   subst iv'
   exact ok ρ' rfl
 ·exact ok.elim
def whileN (t : Fr → R Bool) (f : Fr → O) : Nat → Fr → O
 | 0, _ => .bad
 | n + 1, E => match t E with
  | .ok true => nextO (f E) (whileN t f n)
  | .ok false => .nx E
  | _ => .bad
def stepO (r : R Bool) (o : O) (k : Fr → O) (E : Fr) : O := match r with
 | .ok true => nextO o k
 | .ok false => .nx E
 | _ => .bad
theorem whileN_succ (t : Fr → R Bool) (f : Fr → O) (n : Nat) (E : Fr) : whileN t f (n + 1) E = stepO (t E) (f E) (whileN t f n) E := rfl
theorem while_more {t : Fr → R Bool} {f : Fr → O} {o : O} (ho : o ≠ .bad) : ∀ (n : Nat) (E : Fr), whileN t f n E = o → whileN t f (n + 1) E = o
 | 0, E, h => absurd h.symm ho
 | n + 1, E, h => by
  rw [whileN_succ] at h ⊢
  revert h
  generalize t E = r, f E = o1
  intro h
  rcases r with (_ | _) | m | _
  ·exact h
  ·cases o1 with
   | nx E1 => exact while_more ho n E1 h
   | ct E1 => exact while_more ho n E1 h
   | rt r => exact h
   | bk E1 => exact h
   | er m E1 => exact h
   | bad => exact h
  ·exact h
  ·exact h
theorem while_le {t : Fr → R Bool} {f : Fr → O} {o : O} (ho : o ≠ .bad) {n m : Nat} {E : Fr} (h : whileN t f n E = o) (l : n ≤ m) : whileN t f m E = o := by
 induction l with
 | refl => exact h
 | step _ ih => exact while_more ho _ _ ih
open Classical in
noncomputable def sWhile (t : Fr → R Bool) (f : Fr → O) : Fr → O := fun E => if h : ∃ n, whileN t f n E ≠ .bad then whileN t f (Classical.choose h) E else .bad
theorem sWhile_eq {t : Fr → R Bool} {f : Fr → O} {o : O} {n : Nat} {E : Fr} (h : whileN t f n E = o) (ho : o ≠ .bad) : sWhile t f E = o := by
 have hx : ∃ n, whileN t f n E ≠ .bad := ⟨n, by rw [h]; exact ho⟩
 unfold sWhile
 rw [dif_pos hx]
 have hc := Classical.choose_spec hx
 rcases Nat.le_total n (Classical.choose hx) with l | l
 ·exact while_le ho h l
 ·have := while_le hc rfl l
  rw [h] at this
  exact this.symm
theorem exists_least {p : Nat → Prop} : ∀ n, p n → ∃ n, p n ∧ ∀ m, p m → n ≤ m := by
 intro n
 induction n using Nat.strongRecOn with
 | ind n ih =>
  intro h
  by_cases z : ∃ m, m < n ∧ p m
  ·obtain ⟨m, l, q⟩ := z
   exact ih m l q
  ·exact ⟨n, h, fun m q => Nat.le_of_not_lt fun l => z ⟨m, l, q⟩⟩
open Classical in
noncomputable def leastN (p : Nat → Prop) : Nat := if h : ∃ n, p n ∧ ∀ m, p m → n ≤ m then Classical.choose h else 0
open Classical in
theorem leastN_ok {p : Nat → Prop} {n : Nat} (h : p n) : p (leastN p) ∧ ∀ m, p m → leastN p ≤ m := by
 have hx := exists_least n h
 unfold leastN
 rw [dif_pos hx]
 exact Classical.choose_spec hx
open Classical in
theorem sm_while {body : List Stmt} {f : Fr → O} (hp : PassesOwn (model X.prog X.w) X.A X.env X.xe) (ht : TM X c t) (hb : BM X body f) : SM X (.While c body [] pos) (sWhile t f) := .mk fun C ρ P ok => by
 unfold sWhile at ok
 split at ok
 ·rename_i hx
  have hne := Classical.choose_spec hx
  generalize ho : whileN t f (Classical.choose hx) (frOf ρ) = o at ok hne
  refine ws_while (fun ρ' => ∃ n, whileN t f n (frOf ρ') = o) (fun ρ' => leastN fun n => whileN t f n (frOf ρ') = o) hp ⟨_, ho⟩ fun ρ' iv => ?_
  obtain ⟨n0, iv⟩ := iv
  obtain ⟨hs, _⟩ := leastN_ok (p := fun n => whileN t f n (frOf ρ') = o) iv
  have hs : whileN t f (leastN fun n => whileN t f n (frOf ρ') = o) (frOf ρ') = o := hs
  generalize (leastN fun n => whileN t f n (frOf ρ') = o) = n at hs
  cases n with
  | zero => exact absurd hs.symm hne
  | succ n =>
   rw [whileN] at hs
   split at hs
   ·rename_i q
    refine ⟨true, ht C ρ' _ q, fun _ => hb C ρ' _ ?_, fun z => nomatch z⟩
    have less : ∀ ρ2 : Rho, whileN t f n (frOf ρ2) = o → (∃ n, whileN t f n (frOf ρ2) = o) ∧ (leastN fun n => whileN t f n (frOf ρ2) = o) < n + 1 := fun ρ2 h2 => ⟨⟨n, h2⟩, Nat.lt_succ_of_le ((leastN_ok (p := fun n => whileN t f n (frOf ρ2) = o) h2).2 n h2)⟩
    revert hs
    generalize f (frOf ρ') = o1
    intro hs
    cases o1 with
    | nx E => exact fun ρ2 e => less ρ2 (by rw [e]; exact hs)
    | ct E => exact fun ρ2 e => less ρ2 (by rw [e]; exact hs)
    | rt r => have iv' : O.rt r = o := hs; subst iv'; exact ok
    | bk E => have iv' : O.nx E = o := hs; subst iv'; exact ok
    | er n E => have iv' : O.er n E = o := hs; subst iv'; exact ok
    | bad => have iv' : O.bad = o := hs; subst iv'; exact ok.elim
   ·rename_i q
    refine ⟨false, ht C ρ' _ q, (fun z => nomatch z), fun _ => ?_⟩
    subst hs
    exact ok ρ' rfl
   ·exact absurd hs.symm hne
 ·exact ok.elim
end
end DL
namespace DL
open PySem PySem.Spec PyProof.Rows L2
def wipeF (E : Fr) : List Nat → Fr
 | [] => E
 | v :: vs => setS (wipeF E vs) v .no
theorem frOf_wipe (ρ : Rho) : ∀ vs : List Nat, frOf (wipeR ρ vs) = wipeF (frOf ρ) vs
 | [] => rfl
 | v :: vs => by rw [wipeR, wipeF, frOf_set, frOf_wipe ρ vs]; rfl
def freeS (E : Fr) : List Nat → Bool
 | [] => true
 | v :: vs => (match nthS E v with
  | .ow _ => false
  | .od _ => false
  | .ot _ => false
  | .og _ _ => false
  | _ => true) && freeS E vs
theorem ows_set_same {ρ : Rho} {i : Nat} {x : En} (h1 : ∀ e, ρ[i]? = some e → e.own = []) (h2 : x.own = []) : ows (ρ.set i x) = ows ρ := by
 by_cases hi : i < ρ.length
 ·obtain ⟨l, r, e1, e2⟩ := ows_split ρ i x hi
  have e3 : ownAt ρ i = [] := by
   unfold ownAt
   cases q : ρ[i]? with
   | none => rfl
   | some e => exact h1 e q
  rw [e1, e2, e3, h2]
 ·rw [set_oob hi]
theorem own_free {ρ : Rho} {v : Nat} {vs : List Nat} (h : freeS (frOf ρ) (v :: vs) = true) : (∀ e, ρ[v]? = some e → e.own = []) ∧ freeS (frOf ρ) vs = true := by
 rw [freeS, Bool.and_eq_true] at h
 refine ⟨fun e he => ?_, h.2⟩
 have h1 := h.1
 rw [frOf_nth, he] at h1
 cases e <;> first | rfl | cases h1
theorem ows_wipeR {ρ : Rho} : ∀ {vs : List Nat}, freeS (frOf ρ) vs = true → ows (wipeR ρ vs) = ows ρ ∧ ∀ v ∈ vs, ∀ e, (wipeR ρ vs)[v]? = some e → e.own = []
 | [], _ => ⟨rfl, fun v hv => by cases hv⟩
 | v :: vs, h => by
  obtain ⟨h1, h2⟩ := own_free h
  obtain ⟨i1, i2⟩ := ows_wipeR h2
  have nx : ∀ e, (wipeR ρ vs)[v]? = some e → e.own = [] := by
   intro e he
   by_cases m : v ∈ vs
   ·exact i2 v m e he
   ·have same : ∀ ws : List Nat, v ∉ ws → (wipeR ρ ws)[v]? = ρ[v]? := by
     intro ws
     induction ws with
     | nil => intro _; rfl
     | cons w ws ih =>
      intro nm
      rw [wipeR, List.getElem?_set_ne (fun z => nm (by rw [z]; exact List.mem_cons_self)), ih fun z => nm (List.mem_cons_of_mem _ z)]
    rw [same vs m] at he
    exact h1 e he
  refine ⟨by rw [wipeR, ows_set_same nx rfl, i1], fun w hw e he => ?_⟩
  rw [wipeR] at he
  by_cases z : w = v
  ·subst z
   by_cases hl : w < (wipeR ρ vs).length
   ·rw [List.getElem?_set_self hl] at he
    cases he
    rfl
   ·rw [List.getElem?_eq_none (by rw [List.length_set]; omega)] at he
    cases he
  ·rw [List.getElem?_set_ne (Ne.symm z)] at he
   exact i2 w ((List.mem_cons.mp hw).resolve_left z) e he
theorem ows_setsR : ∀ {ss : List (Nat × D)} {ρ : Rho} {L : List Nat}, (∀ q ∈ ss, q.1 ∈ L) → (∀ v ∈ L, ∀ e, ρ[v]? = some e → e.own = []) → ows (setsR ρ ss) = ows ρ
 | [], _, _, _, _ => rfl
 | (i, d) :: ss, ρ, L, h1, h2 => by
  have hi : i ∈ L := h1 (i, d) List.mem_cons_self
  rw [setsR, ows_setsR (L := L) (fun q hq => h1 q (List.mem_cons_of_mem _ hq)) (fun v hv e he => ?_), ows_set_same (h2 i hi) rfl]
  by_cases z : v = i
  ·subst z
   by_cases hl : v < ρ.length
   ·rw [List.getElem?_set_self hl] at he
    cases he
    rfl
   ·rw [List.getElem?_eq_none (by rw [List.length_set]; omega)] at he
    cases he
  ·rw [List.getElem?_set_ne (Ne.symm z)] at he
   exact h2 v hv e he
def lc1 (g : D → R (List (Nat × D))) (t : Fr → R Bool) (m : MX) (E : Fr) (d : D) : R (Option D) := match g d with
 | .ok ss => lcT (t (setsF E ss)) (toD (m (setsF E ss)))
 | _ => .bad
where lcT (b : R Bool) (v : R D) : R (Option D) := match b with
 | .ok true => (match v with
  | .ok x => .ok (some x)
  | _ => .bad)
 | .ok false => .ok none
 | _ => .bad
def optR (x : R (Option D)) (l : R (List D)) : R (List D) := match x with
 | .ok (some d) => (match l with
  | .ok ds => .ok (d :: ds)
  | _ => .bad)
 | .ok none => l
 | _ => .bad
def lcN (h : D → R (Option D)) : List D → R (List D)
 | [] => .ok []
 | d :: ds => optR (h d) (lcN h ds)
def lcGo (mi : R (List D)) (fre : Bool) (h : D → R (Option D)) : R RV := match mi with
 | .ok ds => if fre = true ∧ ds.length ≤ sizeLine then lstR (lcN h ds) else .bad
 | _ => .bad
def eLc (js : List Nat) (g : D → R (List (Nat × D))) (mi : Fr → R (List D)) (t : Fr → R Bool) (m : MX) : MX := fun E => lcGo (mi E) (freeS E js) (lc1 g t m (wipeF E js))
structure TsM (X : Cx) (ifs : List Expr) (t : Fr → R Bool) : Prop where
 run : ∀ C ρ k, t (frOf ρ) = .ok k → ETs X C ρ ifs k
instance {X : Cx} {ifs : List Expr} {t : Fr → R Bool} : CoeFun (TsM X ifs t) fun _ => ∀ C ρ k, t (frOf ρ) = .ok k → ETs X C ρ ifs k := ⟨fun h => h.run⟩
def tTrue : Fr → R Bool := fun _ => .ok true
section
variable {X : Cx} {C : Ctx} {ρ : Rho} {e a b c tg iter elt : Expr} {ifs : List Expr} {es : List Expr} {m ma mb mc : MX} {d : D} {ds : List D} {pos p spos py : Pos} {t : Fr → R Bool} {P : Post} {sts : List Stmt} {scope : Scope} {own : List (Str × Nat)}
theorem tsm_nil : TsM X [] tTrue := .mk fun C ρ k q => by cases q; exact ets_nil
def takeB (h : D → R (Option D)) (d : D) : Bool := match h d with
 | .ok (some _) => true
 | _ => false
def giveD (h : D → R (Option D)) (d : D) : D := match h d with
 | .ok (some v) => v
 | _ => .non
theorem lcN_ok {h : D → R (Option D)} : ∀ {ds vs : List D}, lcN h ds = .ok vs → (∀ d ∈ ds, ∃ x, h d = .ok x) ∧ vs = (ds.filter (takeB h)).map (giveD h)
 | [], vs, q => by cases q; exact ⟨(fun d hd => by cases hd), rfl⟩
 | d :: ds, vs, q => by
  rw [lcN] at q
  cases e : h d with
  | ok x =>
   rw [e] at q
   cases x with
   | some v =>
    cases e2 : lcN h ds with
    | ok ws =>
     rw [e2] at q
     cases q
     obtain ⟨i1, i2⟩ := lcN_ok e2
     refine ⟨fun z hz => (List.mem_cons.mp hz).elim (fun z => by subst z; exact ⟨_, e⟩) (i1 z), ?_⟩
     rw [List.filter_cons_of_pos (by unfold takeB; rw [e]), List.map_cons, i2, show giveD h d = v by unfold giveD; rw [e]]
    | er n => rw [e2] at q; cases q
    | bad => rw [e2] at q; cases q
   | none =>
    obtain ⟨i1, i2⟩ := lcN_ok (h := h) (ds := ds) (vs := vs) q
    refine ⟨fun z hz => (List.mem_cons.mp hz).elim (fun z => by subst z; exact ⟨_, e⟩) (i1 z), ?_⟩
    rw [List.filter_cons_of_neg (by unfold takeB; rw [e]; decide), i2]
  | er n => rw [e] at q; cases q
  | bad => rw [e] at q; cases q
structure LcM (X : Cx) (scope : Scope) (own : List (Str × Nat)) (tg : Expr) (ifs : List Expr) (elt : Expr) (g : D → R (List (Nat × D))) (t : Fr → R Bool) (m : MX) : Prop where
 gt : ∃ L, (∀ j ∈ L, j ∈ own.map (·.2)) ∧ ∀ X', Blk X scope X' → GM X' tg g L
 ts : ∀ X', Blk X scope X' → TsM X' ifs t
 el : ∀ X', Blk X scope X' → EM X' elt m
theorem lc_ok {g : D → R (List (Nat × D))} (h : LcM X scope own tg ifs elt g t m) (nx : ∃ s H c cl fp, Blk X scope (X.blk s H scope (compEnvC scope cl c X.env) fp)) {vs : List D} (hf : freeS (frOf ρ) (own.map (·.2)) = true) (q : lcN (lc1 g t m (wipeF (frOf ρ) (own.map (·.2)))) ds = .ok vs) :
  LcOk X scope own tg ifs elt (wipeR ρ (own.map (·.2))) ds (fun d => d) (takeB (lc1 g t m (wipeF (frOf ρ) (own.map (·.2))))) (giveD (lc1 g t m (wipeF (frOf ρ) (own.map (·.2))))) := fun C i x hx => by
 obtain ⟨x', e⟩ := (lcN_ok q).1 x (List.mem_of_getElem? hx)
 obtain ⟨L, hL, hg⟩ := h.gt
 have e0 := e
 unfold lc1 at e
 split at e
 ·rename_i ss q1
  obtain ⟨s, H, cc, cl, fp, blk⟩ := nx
  have hq := (hg _ blk C ρ x ss q1).2
  obtain ⟨o1, o2⟩ := ows_wipeR hf
  have fr : frOf (setsR (wipeR ρ (own.map (·.2))) ss) = setsF (wipeF (frOf ρ) (own.map (·.2))) ss := by rw [frOf_sets, frOf_wipe]
  refine ⟨setsR (wipeR ρ (own.map (·.2))) ss, L, fun X' b => (hg X' b C _ x ss q1).1, ows_setsR (L := own.map (·.2)) (fun q hq' => hL _ (hq q hq')) o2, hL, fun X' b => ?_, fun hp X' b => ?_⟩
  ·refine h.ts X' b C _ _ ?_
   rw [fr]
   unfold takeB
   rw [e0]
   unfold lc1.lcT at e
   split at e
   ·rename_i q2
    split at e
    ·cases e; exact q2
    ·cases e
   ·rename_i q2
    cases e; exact q2
   ·cases e
  ·unfold takeB at hp
   unfold giveD
   rw [e0] at hp ⊢
   cases x' with
   | none => cases hp
   | some v =>
    refine (h.el X' b).ee ?_
    rw [fr]
    unfold lc1.lcT at e
    split at e
    ·split at e
     ·rename_i q3
      cases e
      exact q3
     ·cases e
    ·cases e
    ·cases e
 ·cases e
theorem em_lc {g : D → R (List (Nat × D))} {mi : Fr → R (List D)} (hi : IM X tg iter mi) (h : LcM X scope own tg ifs elt g t m) (ok : BlkOk X.N X.env.scope scope own) (hN : X.N.Nodup) (hc : X.calm = true := by rfl) (hf : ∀ x, foldedSetIterable iter X.env x = pure x := by intro _; rfl) :
  EM X (.ListComp elt [⟨tg, iter, ifs, 0⟩] scope pos) (eLc (own.map (·.2)) g mi t m) := .mk fun C ρ => by
 unfold eLc lcGo
 split
 ·rename_i ds q
  split
  ·rename_i hz
   cases q2 : lcN (lc1 g t m (wipeF (frOf ρ) (own.map (·.2)))) ds with
   | ok vs =>
    intro σ H S Q qq
    have lo := lc_ok h ⟨X.s_0, (fun _ => none), X.env.locals, [], [], X.s_0, (fun _ => none), X.env.locals, [], [], rfl⟩ hz.1 q2
    refine ef_lc (enc := fun d : D => d) (xs := ds) (by rw [List.map_id']; exact hi C ρ ds q) lo rfl (ows_wipeR hz.1).1 hz.2 ok hN hc hf σ H S Q ?_
    rw [← (lcN_ok q2).2]
    exact qq
   | er n => trivial
   | bad => trivial
  ·trivial
 ·trivial
theorem ws_setLc' {β : Type} (i : Nat) {y : Str} {xs : List β} {enc : β → D} {pp : β → Bool} {f : β → D} {ρw : Rho} (hi : EI X C ρ tg iter (xs.map enc)) (hs : LcOk X scope own tg ifs elt ρw xs enc pp f) (h : ∀ a, P.nx (ρ.set i (.ow a ((xs.filter pp).map f)))) (hw : wipeR ρ (own.map (·.2)) = ρw) (how : ows ρw = ows ρ) (hz : xs.length ≤ sizeLine)
  (ok : BlkOk X.N X.env.scope scope own) (hN : X.N.Nodup) (hy : X.N[i]? = some y := by rfl) (hyl : X.env.scope.names.lookup y = some .local := by rfl) (hsw : swapsWith (.ListComp elt [⟨tg, iter, ifs, 0⟩] scope pos) (some (.Name y py)) spos.line X.env = pure true := by exact sw_true rfl rfl rfl (by decide +kernel))
  (hc : X.calm = true := by rfl) (hf : ∀ x, foldedSetIterable iter X.env x = pure x := by intro _; rfl) : WS X C ρ (.Assign [.Name y py] (.ListComp elt [⟨tg, iter, ifs, 0⟩] scope pos) spos) P := fun σ H D S L =>
 wpS_of (ps_setLc hc hN hy hyl hsw pi_wp ok cG_ok cT_ok cE_ok hf) (lc_reading S hi hw how hz hs fun a vs H' n s l r => by
  by_cases hl : i < ρ.length
  ·obtain ⟨S2, s2⟩ := S.setOw i hl n s l r
   exact L.nx _ _ _ (h a) S2 s2
  ·have h' := h a
   rw [set_oob hl] at h'
   show D.nx (σ.set i (some (.ref a))) H'
   rw [set_oobS (by rw [S.len]; exact hl)]
   exact L.nx _ _ _ h' (S.same s) (vis_same s))
theorem ws_frozen (i : Nat) {st : Stmt} (h : ∀ P' : Post, (∀ a, P'.nx (ρ.set i (.ow a ds))) → P'.rt = P.rt → P'.bk = P.bk → P'.ct = P.ct → P'.er = P.er → WS X C ρ st P') (k : P.nx (ρ.set i (.im (.lst ds)))) : WS X C ρ st P := fun σ H D S L =>
 h { P with nx := fun ρ' => ∃ a, ρ' = ρ.set i (.ow a ds) } (fun a => ⟨a, rfl⟩) rfl rfl rfl rfl σ H D S ⟨fun ρ' σ' H' ⟨a, e⟩ S' v' => by
  subst e
  by_cases hl : i < ρ.length
  ·obtain ⟨S2, s2⟩ := S'.freeze i (List.getElem?_set_self hl)
   rw [List.set_set] at S2 s2
   exact L.nx _ _ _ k S2 (v'.trans s2)
  ·rw [set_oob hl] at k S' v'
   exact L.nx _ _ _ k S' v', L.bk, L.ct, L.rt, L.tk⟩
theorem sm_setLc (i : Nat) {y : Str} {g : D → R (List (Nat × D))} {mi : Fr → R (List D)} (hi : IM X tg iter mi) (h : LcM X scope own tg ifs elt g t m) (ok : BlkOk X.N X.env.scope scope own) (hN : X.N.Nodup) (hy : X.N[i]? = some y := by rfl) (hyl : X.env.scope.names.lookup y = some .local := by rfl)
  (hsw : swapsWith (.ListComp elt [⟨tg, iter, ifs, 0⟩] scope pos) (some (.Name y py)) spos.line X.env = pure true := by exact sw_true rfl rfl rfl (by decide +kernel)) (hc : X.calm = true := by rfl) (hf : ∀ x, foldedSetIterable iter X.env x = pure x := by intro _; rfl) :
  SM X (.Assign [.Name y py] (.ListComp elt [⟨tg, iter, ifs, 0⟩] scope pos) spos) (sSet i (eLc (own.map (·.2)) g mi t m)) := .mk fun C ρ P okk => by
 unfold sSet eLc lcGo at okk
 split at okk
 ·rename_i ds q
  split at okk
  ·rename_i hz
   cases q2 : lcN (lc1 g t m (wipeF (frOf ρ) (own.map (·.2)))) ds with
   | ok vs =>
    rw [q2] at okk
    refine ws_frozen i (ds := vs) (fun P' k1 k2 k3 k4 k5 => ?_) (okk _ (frOf_set ..))
    intro σ H Dn S L
    have lo := lc_ok h ⟨X.s_0, (fun _ => none), X.env.locals, [], [], X.s_0, (fun _ => none), X.env.locals, [], [], rfl⟩ hz.1 q2
    refine ws_setLc' i (enc := fun d : D => d) (xs := ds) (by rw [List.map_id']; exact hi C ρ ds q) lo (fun a => ?_) rfl (ows_wipeR hz.1).1 hz.2 ok hN hy hyl hsw hc hf σ H Dn S L
    rw [← (lcN_ok q2).2]
    exact k1 a
   | er n => rw [q2] at okk; exact okk.elim
   | bad => rw [q2] at okk; exact okk.elim
  ·exact okk.elim
 ·exact okk.elim
def tryO (i : Nat) (L : List Str) (o : O) (s : Fr → O) : O := match o with
 | .er n E => if L.contains n = true then (match s (setS E i (.im (.exc n))) with
   | .nx E => .nx (setS E i .no)
   | .bk E => .bk (setS E i .no)
   | .ct E => .ct (setS E i .no)
   | .rt r => .rt r
   | _ => .bad) else .bad
 | o => o
def sTry (i : Nat) (L : List Str) (f s : Fr → O) : Fr → O := fun E => tryO i L (f E) s
theorem sm_try (i : Nat) {x n : Str} {c : Addr} {body suite : List Stmt} {b₀ : Stmt} {np pos pos' : Pos} {L : List Str} {f s : Fr → O} (hc : X.mg x = some (.ref c)) (hN : X.N.Nodup) (hL : ∀ n, L.contains n = true → ∀ Cl, clsOf X.K n = some Cl → PySem.W.exmOne X.K (.ref Cl) (.ref c) = some true)
  (hb : ∀ (pn : List (Addr × Obj)) (xe : Value → Shared → Prop), PassesOwn (model X.prog X.w) X.A X.env xe → BM (X.tr pn xe) body f) (hs : ∀ (a : Addr) (pn : List (Addr × Obj)), BM (X.suite a pn) (b₀ :: suite) s)
  (hst : X.stack = X.env :: X.outer := by rfl) (hex : X.ex = [] := by rfl) (hf : X.env.frame = some X.env.locals := by rfl) (hi : X.N[i]? = some n := by rfl) (hln : X.env.kindOf n = some .local := by rfl) (hg : Gl X x := by rfl) (hdb : (x == ("__debug__" : Str)) = false := by decide) :
  SM X (.Try body [.ExceptHandler (some (.Name x np)) (some n) (b₀ :: suite) pos'] [] [] pos) (sTry i L f s) := .mk fun C ρ P ok => by
 refine ws_try i hc hN (fun pn xe hp => hb pn xe hp C ρ _ ?_) hst hex hf hi hln hg hdb
 unfold sTry tryO at ok
 revert ok
 generalize f (frOf ρ) = o
 intro ok
 cases o with
 | nx E => exact ok
 | rt r => exact ok
 | bk E => exact ok
 | ct E => exact ok
 | bad => exact ok
 | er n E =>
  intro ρ' e
  dsimp only at ok
  split at ok
  ·rename_i hl
   refine ⟨hL n hl, fun a pn => hs a pn C _ _ ?_⟩
   rw [frOf_set, e]
   show OkO (sPost P i) (s (setS E i (.im (.exc n))))
   revert ok
   generalize s (setS E i (.im (.exc n))) = o2
   intro ok
   cases o2 with
   | nx E2 => exact fun ρ2 e2 => ok _ (by rw [frOf_set, e2]; rfl)
   | bk E2 => exact fun ρ2 e2 => ok _ (by rw [frOf_set, e2]; rfl)
   | ct E2 => exact fun ρ2 e2 => ok _ (by rw [frOf_set, e2]; rfl)
   | rt r => exact ok
   | er z E2 => exact ok.elim
   | bad => exact ok.elim
  ·exact ok.elim
end
def startF (n : Nat) (as : List D) : Fr := as.map Sl.im ++ List.replicate (n - as.length) .no
def retO : O → R Ret
 | .nx _ => .ok (.im .non)
 | .rt r => .ok r
 | .er n _ => .er n
 | _ => .bad
def fnR (n : Nat) (b : Fr → O) (as : List D) : R Ret := retO (b (startF n as))
theorem frOf_start (N : List Str) (ds : List D) : frOf (startR N ds) = startF N.length ds := by
 unfold frOf startR startF
 rw [List.map_append, List.map_map, List.map_replicate]
 rfl
section
variable {P : Program} {w : World} {K : PySem.W.Frag} {mg : Str → Option Value} {base : Heap}
theorem ret_post {o : O} {r : R Ret} (e : retO o = r) (h : notBad r) : OkO (fnPost (resOf r)) o := by
 subst e
 cases o with
 | nx E => exact fun ρ _ => rfl
 | rt r => exact rfl
 | bk E => exact h.elim
 | ct E => exact h.elim
 | er n E => exact fun ρ _ => rfl
 | bad => exact h.elim
theorem cal_body {x qual : Str} {st : Stmt} {f : Addr} {fd : FuncData} {N ps : List Str} {k : Nat} {b : Fr → O} (F : Fun K x qual st f fd) (hm : mg x = some (.ref f)) (hb : Binds K fd ps []) (S : FnScope N ps (defScope st))
  (body : ∀ (cdv : Value) (A : Around) (outer : List Env) (s : Shared) (H : Hp) (E : XK), Room k (A.deeper (envOfC qual (defScope st) s.heap.objs.size f cdv)) → BM (cxOf (L2.CX P w) P w K mg base N qual (defScope st) f cdv A outer s H E) (defBody st) b) :
  CalX P w K mg base (k + 1) x ps (spM K ps.length (fnR N.length b)) :=
 CalX.of_body F hm hb S (fun y => y.2) fun cdv A outer s H E C hr y hy => body cdv A outer s H E hr C _ _ (by rw [frOf_start]; exact ret_post rfl hy)
theorem law_body {st : Stmt} {f : Addr} {fd : FuncData} {N ps : List Str} {k : Nat} {b : Fr → O} (F : Fun K "law" "law" st f fd) (S : FnScope N ps (defScope st)) (hps : 1 = ps.length) (ok : ∀ ns : List Int, ns.length ≤ 63 → (∀ z ∈ ns, Sz 1048576 z) → fnR N.length b [.lst (D.ints ns)] = .ok (.im (.bl true)))
  (body : ∀ (cdv : Value) (A : Around) (outer : List Env) (s : Shared) (H : Hp) (E : XK), Room k (A.deeper (envOfC "law" (defScope st) s.heap.objs.size f cdv)) → BM (cxOf CX0 P w K mg base N "law" (defScope st) f cdv A outer s H E).nox (defBody st) b) :
  FnOk P w K mg base CX0 (k + 1) f fd ps (spLaw K) :=
 fn_of_body F S (fun _ => hps) fun cdv A outer s H E C hr ns hy => body cdv A outer s H E hr C _ _ (by
  rw [frOf_start]
  have e := ok ns hy.1 hy.2
  have z := ret_post (o := b (startF N.length [.lst (D.ints ns)])) rfl (by show notBad (fnR _ _ _); rw [e]; trivial)
  have e2 : retO (b (startF N.length [.lst (D.ints ns)])) = .ok (.im (.bl true)) := e
  rw [e2] at z
  exact z)
end
end DL
namespace DL
open PySem PySem.Spec PyProof.Rows L2
section
variable {X : Cx} {C : Ctx} {ρ : Rho} {e a b c tg iter elt : Expr} {ifs : List Expr} {es : List Expr} {m ma mb mc : MX} {d : D} {ds : List D} {pos p spos py : Pos} {t : Fr → R Bool} {P : Post} {sts : List Stmt}
def intcR : R D → R RV
 | .ok (.at (.bl b)) => .ok (.im (.int (if b = true then 1 else 0)))
 | .ok (.at (.int i)) => .ok (.im (.int i))
 | .ok (.at (.str z)) => (match PySem.intText? z with
  | some n => if z.length ≤ 640 then .ok (.im (.int n)) else .bad
  | none => .bad)
 | _ => .bad
def eInt (m : MX) : MX := fun E => intcR (toD (m E))
theorem em_intc {p : Pos} (hm : X.mg "int" = none) (ha : EM X e m) (hg : Gl X "int" := by rfl) (he : starEach [e] X.env = (false, eval e X.env) :: starEach [] X.env := by exact se_of rfl) : EM X (.Call (.Name "int" p) [e] [] pos) (eInt m) := .mk fun C ρ => by
 unfold eInt intcR
 split
 ·rename_i k q
  exact ee_intB hm (ha.ee q) hg he
 ·rename_i i q
  exact ee_callTy call_int1 (eal_cons (ha.ee q) eal_nil he) (fun σ H vs S r Q qq => by
   obtain ⟨v, rfl, r1⟩ := r.one
   cases r1
   exact .inl ⟨i, rfl, qq _ H (Same.refl H) (.at _)⟩) hm (by decide +kernel) hg (by decide) (by decide) he rfl
 ·rename_i z q
  split
  ·rename_i n q2
   split
   ·exact ee_intS hm (ha.ee q) q2 (by assumption) hg he
   ·trivial
  ·trivial
 ·trivial
def D.isBl (b : Bool) : D → Bool
 | .at (.bl k) => k == b
 | _ => false
theorem ec_isB {k : Bool} (ha : EE X C ρ a d) {j p} : EC X C ρ .Is a (.Constant (.bool k) j p) (.bl (d.isBl k)) := fun σ H S Q q pins s I => by
 refine binT pe_wp pe_wp I (R := fun v u H2 => Rep X.K H2 v d ∧ u = .bl k ∧ Q (.bl (d.isBl k)) H2) (ha σ H S _ fun v H1 s1 r1 => (ee_bl (C := C) (ρ := ρ)) σ H1 (S.same s1) _ fun u H2 s2 r2 => ?_) fun x u s2 v y H2 I2 rx ry q2 => ?_
 ·cases r2
  have S2 := (S.same s1).same s2
  exact ⟨Rep.mono S2.visIn _ (Rep.mono (vis_same s2) _ r1), rfl, q H2 (s1.trans s2)⟩
 ·obtain ⟨r1, rfl, q2⟩ := q2
  have ey : u = Value.bool k := ry
  subst ey
  cases r1 with
  | «at» w =>
   cases v with
   | bl i =>
    cases (show x = Value.bool i from rx)
    by_cases e : i = k
    ·subst e
     exact wpAny_is_self rfl ⟨.bl true, H2, I2, rfl, by simpa [D.isBl] using q2⟩
    ·exact wpAny_is_other rfl (fun z => e (Value.bool.inj z)) ⟨.bl false, H2, I2, rfl, by rw [show (D.isBl k (.at (.bl i))) = false from beq_eq_false_iff_ne.mpr e] at q2; exact q2⟩
   | non => cases (show x = Value.none from rx); exact wpAny_is_other rfl (fun z => nomatch z) ⟨.bl false, H2, I2, rfl, q2⟩
   | int i => obtain ⟨t, rfl⟩ := rx; exact wpAny_is_other rfl (fun z => nomatch z) ⟨.bl false, H2, I2, rfl, q2⟩
   | str i => obtain ⟨t, rfl⟩ := rx; exact wpAny_is_other rfl (fun z => nomatch z) ⟨.bl false, H2, I2, rfl, q2⟩
   | byt i => obtain ⟨t, rfl⟩ := rx; exact wpAny_is_other rfl (fun z => nomatch z) ⟨.bl false, H2, I2, rfl, q2⟩
   | flt i => obtain ⟨t, rfl⟩ := rx; exact wpAny_is_other rfl (fun z => nomatch z) ⟨.bl false, H2, I2, rfl, q2⟩
   | ref i => cases (show x = Value.ref i from rx); exact wpAny_is_other rfl (fun z => nomatch z) ⟨.bl false, H2, I2, rfl, q2⟩
   | ty i => cases (show x = Value.type i from rx); exact wpAny_is_other rfl (fun z => nomatch z) ⟨.bl false, H2, I2, rfl, q2⟩
  | tup s r => cases rx; exact wpAny_is_other rfl (fun z => nomatch z) ⟨.bl false, H2, I2, rfl, q2⟩
  | lst s r => cases rx; exact wpAny_is_other rfl (fun z => nomatch z) ⟨.bl false, H2, I2, rfl, q2⟩
  | exc s r => cases rx; exact wpAny_is_other rfl (fun z => nomatch z) ⟨.bl false, H2, I2, rfl, q2⟩
  | obj _ _ _ _ => cases rx; exact wpAny_is_other rfl (fun z => nomatch z) ⟨.bl false, H2, I2, rfl, q2⟩
  | dct _ => cases rx; exact wpAny_is_other rfl (fun z => nomatch z) ⟨.bl false, H2, I2, rfl, q2⟩
  | any => cases rx; exact wpAny_is_other rfl (fun z => nomatch z) ⟨.bl false, H2, I2, rfl, q2⟩
def isBR (k : Bool) : R D → R Bool
 | .ok d => .ok (d.isBl k)
 | _ => .bad
def cIsB (k : Bool) (m : MX) : Fr → R Bool := fun E => isBR k (toD (m E))
theorem cm_isB {k : Bool} (ha : EM X a ma) {j p} : CM X .Is a (.Constant (.bool k) j p) (cIsB k ma) := .mk fun C ρ z q => by
 unfold cIsB isBR at q
 split at q
 ·rename_i d q1
  cases q
  exact ec_isB (ha.ee q1)
 ·cases q
theorem inV_ints (i : Int) : ∀ ns : List Int, inV (.int i) (ns.map V.int) = decide (i ∈ ns)
 | [] => rfl
 | n :: ns => by
  show (eqV (.int n) (.int i) || inV (.int i) (ns.map V.int)) = _
  rw [inV_ints i ns, show eqV (.int n) (.int i) = (n == i) from rfl, Bool.beq_eq_decide_eq]
  by_cases e : i = n
  ·subst e; simp
  ·have e' : ¬ n = i := fun z => e z.symm
   simp [e, e']
theorem flat_ints : ∀ ns : List Int, (ns.map V.int).all flatV = true
 | [] => rfl
 | n :: ns => by rw [List.map_cons, List.all_cons, flat_ints ns]; rfl
theorem ec_inT {i : Int} {ns : List Int} (ha : EE X C ρ a (.int i)) (hb : EE X C ρ b (.tup (D.ints ns))) : EC X C ρ .In a b (.bl (decide (i ∈ ns))) ∧ EC X C ρ .NotIn a b (.bl (!decide (i ∈ ns))) :=
 ⟨ec_opD op_in_seq ha hb fun σ H v u S r1 r2 Q q => by
  cases r1
  cases r2 with
  | tup sq rs =>
   have e1 := rs.ints
   subst e1
   refine ⟨_, _, rfl, .inr (Same.seqT S.visIn (tq sq)), rfl, flat_ints ns, ?_⟩
   rw [if_neg Bool.false_ne_true, inV_ints]
   exact q H (Same.refl H),
 ec_opD op_notIn_seq ha hb fun σ H v u S r1 r2 Q q => by
  cases r1
  cases r2 with
  | tup sq rs =>
   have e1 := rs.ints
   subst e1
   refine ⟨_, _, rfl, .inr (Same.seqT S.visIn (tq sq)), rfl, flat_ints ns, ?_⟩
   rw [if_pos rfl, inV_ints]
   exact q H (Same.refl H)⟩
def strsOf : List D → Option (List Str)
 | [] => some []
 | .at (.str z) :: r => (strsOf r).map (z :: ·)
 | _ => none
theorem strsOf_eq : ∀ {ds : List D} {ns : List Str}, strsOf ds = some ns → ds = ns.map D.str
 | [], ns, h => by cases h; rfl
 | .at (.str z) :: r, ns, h => by
  unfold strsOf at h
  cases e : strsOf r with
  | none => rw [e] at h; cases h
  | some ms => rw [e] at h; cases h; rw [strsOf_eq e]; rfl
 | .at .non :: _, ns, h => by cases h
 | .at (.bl _) :: _, ns, h => by cases h
 | .at (.int _) :: _, ns, h => by cases h
 | .at (.byt _) :: _, ns, h => by cases h
 | .at (.flt _) :: _, ns, h => by cases h
 | .at (.ref _) :: _, ns, h => by cases h
 | .at (.ty _) :: _, ns, h => by cases h
 | .tup _ :: _, ns, h => by cases h
 | .lst _ :: _, ns, h => by cases h
 | .exc _ :: _, ns, h => by cases h
def inTR : R D → R D → R Bool
 | .ok (.at (.int i)), .ok (.tup ds) => (match intsOf ds with
  | some ns => .ok (decide (i ∈ ns))
  | none => .bad)
 | .ok (.at (.str z)), .ok (.tup ds) => (match strsOf ds with
  | some ns => .ok (decide (z ∈ ns))
  | none => .bad)
 | _, _ => .bad
def cInT (ma mb : MX) : Fr → R Bool := fun E => inTR (toD (ma E)) (toD (mb E))
def cNotInT (ma mb : MX) : Fr → R Bool := fun E => notR (inTR (toD (ma E)) (toD (mb E)))
theorem inTR_ok {ma mb : MX} (ha : EM X a ma) (hb : EM X b mb) {k : Bool} (q : inTR (toD (ma (frOf ρ))) (toD (mb (frOf ρ))) = .ok k) : EC X C ρ .In a b (.bl k) ∧ EC X C ρ .NotIn a b (.bl (!k)) := by
 unfold inTR at q
 split at q
 ·rename_i i ds q1 q2
  split at q
  ·rename_i ns q3
   cases q
   have h2 := hb.ee (C := C) q2
   rw [intsOf_eq q3] at h2
   exact ec_inT (ha.ee q1) h2
  ·cases q
 ·rename_i z ds q1 q2
  split at q
  ·rename_i ns q3
   cases q
   have h2 := hb.ee (C := C) q2
   rw [strsOf_eq q3] at h2
   exact ec_inTS (ha.ee q1) h2
  ·cases q
 ·cases q
theorem cm_inT (hu : X.A.units + 65 < cLine) (ha : EM X a ma) (hb : EM X b mb) : CM X .In a b (cInT ma mb) := .mk fun C ρ k q => (inTR_ok ha hb q).1
theorem cm_ninT (hu : X.A.units + 65 < cLine) (ha : EM X a ma) (hb : EM X b mb) : CM X .NotIn a b (cNotInT ma mb) := .mk fun C ρ k q => by
 obtain ⟨k', q', rfl⟩ := notR_ok q
 exact (inTR_ok ha hb q').2
def isiTR (ms : List String) : R D → R RV
 | .ok d => (match d.tyN with
  | some n => .ok (.im (.bl (ms.any (tyB n))))
  | none => .bad)
 | _ => .bad
def eIsiT (m : MX) (ms : List String) : MX := fun E => isiTR ms (toD (m E))
theorem kitAny_ty {K : PySem.W.Frag} {n : String} : ∀ {ms : List String}, (∀ m ∈ ms, kitB n m = some (tyB n m)) → PySem.W.kitAny K (.type n) (ms.map Value.type) = some (ms.any (tyB n))
 | [], _ => rfl
 | m :: ms, h => by
  refine kitAny_cons (b := tyB n m) (kit_ty (h m List.mem_cons_self)) (fun z => ?_) fun z => ?_
  ·rw [List.any_cons, z, Bool.false_or]
   exact kitAny_ty fun m hm => h m (List.mem_cons_of_mem _ hm)
  ·rw [List.any_cons, z, Bool.true_or]
theorem em_isiT {p : Pos} {ms : List String} {x1 : Nat} {tp : Pos} (hm : X.mg "isinstance" = none) (ha : EM X a ma) (hb : ∀ C ρ, EA X C ρ es (ms.map fun m => .at (.ty m))) (h5 : ∀ m ∈ ms, m = "int" ∨ m = "bool" ∨ m = "str" ∨ m = "tuple" ∨ m = "list") (hg : Gl X "isinstance" := by rfl)
  (he : starEach [a, .Tuple es x1 tp] X.env = (false, eval a X.env) :: starEach [.Tuple es x1 tp] X.env := by exact se_of rfl) (he2 : starEach [.Tuple es x1 tp] X.env = (false, eval (.Tuple es x1 tp) X.env) :: starEach [] X.env := by exact se_of rfl)
  (hpl : (backTo pos (starEach [.Tuple es x1 tp] X.env)).any (·.1) = false := by rfl) (hl : ms.length ≤ sizeLine := by (show _ ≤ 16777216; decide)) : EM X (.Call (.Name "isinstance" p) [a, .Tuple es x1 tp] [] pos) (eIsiT ma ms) := .mk fun C ρ => by
 unfold eIsiT isiTR
 split
 ·rename_i d q1
  split
  ·rename_i n q2
   exact ee_isiT _ hm (ha.ee q1) (hb C ρ) q2 (kitAny_ty fun m hm => kit_ty6 q2 m (h5 m hm)) hg he he2 hpl hl
  ·trivial
 ·trivial
def noEr : R RV → R RV
 | .er _ => .bad
 | r => r
def eCall0 (f : List D → R Ret) : MX := fun _ => noEr (retV (f []))
theorem em_call0 {k : Nat} {x : Str} {f : List D → R Ret} (F : CalX X.prog X.w X.K X.mg X.base k x [] (spM X.K 0 f)) (hr : Room k X.A) (hg : Gl X x := by rfl) (hdb : (x == ("__debug__" : Str)) = false := by decide) : EM X (.Call (.Name x p) [] [] pos) (eCall0 f) := .mk fun C ρ => by
 unfold eCall0
 cases qf : f [] with
 | ok r =>
  have run : ∀ (Q : VK) (σ : L2.St) (H : Hp), SRel X.K C H σ ρ → (∀ v H2, Same H H2 → RetR X.K ⟨H, vis C (ows ρ) H, [], []⟩ H2 v r → Q v H2) → wpE X (.Call (.Name x p) [] [] pos) σ H Q := by
   intro Q σ H S q
   obtain ⟨g, fd, CX, hm, hk, hb, F, hx⟩ := F.cal.ex
   refine wpE_of (pe_call0 (dvs := []) F hr hg hm hk hb .nil (hx X rfl rfl) hdb) ?_
   refine ⟨vis C (ows ρ) H, ⟨[], rfl⟩, S.visIn, .nil, (by show notBad (f []); rw [qf]; trivial), fun r' v H2 hr2 s2 rr => ?_, fun z c H2 hr2 => ?_⟩
   ·have hr3 : resOf (f []) = .ok r' := hr2
    rw [qf] at hr3
    cases hr3
    exact q v H2 s2 rr
   ·have hr3 : resOf (f []) = .er z := hr2
    rw [qf] at hr3
    cases hr3
  cases r with
  | up _ _ => trivial
  | im d =>
   intro σ H S Q q
   exact run Q σ H S fun v H2 s2 rr => q v H2 s2 (Rep.mono (vis_callee (l := []) S.hh (fun a h => (S.fr a h).2) (fun _ z => absurd z List.not_mem_nil) s2) _ rr)
  | fr l =>
   intro σ H S Q q
   refine run Q σ H S fun v H2 s2 rr => ?_
   obtain ⟨a, xs, rfl, n, l, rs⟩ := rr
   have n' : H a = none := n
   refine q a xs H2 n' s2 l (Reps.mono (vis_callee (l := [a]) S.hh (fun a h => (S.fr a h).2) (fun b z => ?_) s2) _ rs)
   have e : b = a := by simpa using z
   rw [e]
   exact n'
 | er z => trivial
 | bad => trivial
end
def SubT (K : PySem.W.Frag) (a b : Str) (r : Bool) : Prop := ∃ Ca Cb, clsOf K a = some Ca ∧ clsOf K b = some Cb ∧ PySem.W.subIn K (.ref Ca) (.ref Cb) = some r ∧ PySem.W.subIn K (.ref Cb) (.ref Cb) = some true
def SubV (K : PySem.W.Frag) (a : Str) : Prop := ∃ Ca, clsOf K a = some Ca ∧ PySem.W.subIn K (.ref Ca) (.type "ValueError") = some true
theorem subT_mk {K : PySem.W.Frag} {a b : Str} {r : Bool} {Ca Cb : Addr} (h1 : PySem.W.nsIn K mainGlobals a = some (some (.ref Ca))) (h2 : PySem.W.nsIn K mainGlobals b = some (some (.ref Cb))) (h3 : PySem.W.subIn K (.ref Ca) (.ref Cb) = some r) (h4 : PySem.W.subIn K (.ref Cb) (.ref Cb) = some true) : SubT K a b r :=
 ⟨Ca, Cb, by unfold clsOf; rw [h1], by unfold clsOf; rw [h2], h3, h4⟩
theorem subV_mk {K : PySem.W.Frag} {a : Str} {Ca : Addr} (h1 : PySem.W.nsIn K mainGlobals a = some (some (.ref Ca))) (h3 : PySem.W.subIn K (.ref Ca) (.type "ValueError") = some true) : SubV K a := ⟨Ca, by unfold clsOf; rw [h1], h3⟩
section
variable {K : PySem.W.Frag} {mg : Str → Option Value}
theorem subOk_nil {cv : Value} : SubOk K cv [] := fun n b h => by cases h
theorem subOk_cons {cv : Value} {n : Str} {b : Bool} {L : List (Str × Bool)} (h : ∃ Cl, clsOf K n = some Cl ∧ ExcC K Cl ∧ PySem.W.kitOne K (.ref Cl) cv = some b) (r : SubOk K cv L) : SubOk K cv ((n, b) :: L) := fun n' b' q => by
 rw [List.lookup_cons] at q
 split at q
 ·rename_i e
  have e' : n' = n := by simpa using e
  cases q
  rw [e']
  exact h
 ·exact r n' b' q
theorem subOk_own {n x : Str} {B : Addr} {b : Bool} {L : List (Str × Bool)} (ta : ∃ Cl, ExcT K mg n Cl) (tb : ExcT K mg x B) (s : SubT K n x b) (r : SubOk K (.ref B) L) : SubOk K (.ref B) ((n, b) :: L) := subOk_cons (by
 obtain ⟨Cl, ta⟩ := ta
 obtain ⟨Ca, Cb, h1, h2, h3, h4⟩ := s
 have e1 := h1.symm.trans ta.nC
 have e2 := h2.symm.trans tb.nC
 cases e1
 cases e2
 exact ⟨_, h1, ta.ec, kit_own tb h4 h3⟩) r
theorem subOk_ve {n : Str} {L : List (Str × Bool)} (ta : ∃ Cl, ExcT K mg n Cl) (s : SubV K n) (r : SubOk K (.type "ValueError") L) : SubOk K (.type "ValueError") ((n, true) :: L) := subOk_cons (by
 obtain ⟨Cl, ta⟩ := ta
 obtain ⟨Ca, h1, h3⟩ := s
 have e1 := h1.symm.trans ta.nC
 cases e1
 exact ⟨_, h1, ta.ec, kit_ve h3⟩) r
theorem caught_nil {c : Addr} : ∀ n, ([] : List Str).contains n = true → ∀ Cl, clsOf K n = some Cl → PySem.W.exmOne K (.ref Cl) (.ref c) = some true := fun n h => by cases h
theorem caught_cons {c : Addr} {x n : Str} {L : List Str} (tb : ExcT K mg x c) (s : SubT K n x true) (r : ∀ n, L.contains n = true → ∀ Cl, clsOf K n = some Cl → PySem.W.exmOne K (.ref Cl) (.ref c) = some true) : ∀ n', (n :: L).contains n' = true → ∀ Cl, clsOf K n' = some Cl → PySem.W.exmOne K (.ref Cl) (.ref c) = some true := fun n' h Cl hC => by
 rw [List.contains_cons, Bool.or_eq_true] at h
 rcases h with h | h
 ·have e : n' = n := by simpa using h
  subst e
  obtain ⟨Ca, Cb, h1, h2, h3, _⟩ := s
  have e1 := h1.symm.trans hC
  have e2 := h2.symm.trans tb.nC
  cases e1
  cases e2
  exact exm_own tb h3
 ·exact r n' h Cl hC
end
end DL
namespace DL
open PySem PySem.Spec PyProof.Rows L2
def Sk (t : Bool) (g : Heap) (a : Addr) (xs : Array Value) : Prop := match t with
 | true => g.IsTuple a xs
 | false => g.IsList a xs
def Ik (t : Bool) (g : Heap) (i a : Addr) (n : Nat) : Prop := match t with
 | true => g.IsTupleIter i a n
 | false => g.IsListIter i a n
theorem Sk.ext {t : Bool} {g g' : Heap} {a c : Addr} {xs : Array Value} (h : Sk t g a xs) (e : Heap.ExtBut c g g') (n : a ≠ c) : Sk t g' a xs := by
 cases t with
 | true => exact Heap.IsTuple.extBut h e n
 | false => exact Heap.IsList.extBut h e n
theorem Ik.ext {t : Bool} {g g' : Heap} {i a c : Addr} {k : Nat} (h : Ik t g i a k) (e : Heap.ExtBut c g g') (n : i ≠ c) : Ik t g' i a k := by
 cases t with
 | true => exact Heap.IsTupleIter.extBut h e n
 | false => exact Heap.IsListIter.extBut h e n
theorem Ik.stay {t : Bool} {g g' : Heap} {i a : Addr} {k : Nat} (h : Ik t g i a k) (e : ∀ o, g.get? i = some o → g'.get? i = some o) : Ik t g' i a k := by
 cases t with
 | true => exact Heap.IsTupleIter.at h e
 | false => exact Heap.IsListIter.at h e
theorem Ik.obj {t : Bool} {g : Heap} {i a : Addr} {k : Nat} (h : Ik t g i a k) : ∃ o, g.get? i = some o ∧ o.data = .fields #[.ref a, .int k 0] := by
 cases t with
 | true => obtain ⟨o, e, _, d⟩ := h; exact ⟨o, e, d⟩
 | false => obtain ⟨o, e, _, d⟩ := h; exact ⟨o, e, d⟩
section
variable {prog : Program} {w : World} {A : Around} {Fx : Value → Shared → Prop} {s : Shared}
theorem step_on {t : Bool} {i a : Addr} {k : Nat} {xs : Array Value} {x : Value} {Q : Value → Shared → Prop} (h : Ik t s.heap i a k) (l : Sk t s.heap a xs) (e : xs[k]? = some x) (q : ∀ g, Ik t g i a (k + 1) → Heap.SameBut i s.heap g → Q x { s with heap := g }) :
  wpAny (model prog w) A (Builtin.SmallTypes.nextOf (.ref i)) Q Fx s := by
 cases t with
 | true => exact RZ.nextOf_tuple_item h l e q
 | false => exact wpAny_nextOf_list_item h l e q
theorem step_off {t : Bool} {i a : Addr} {k : Nat} {xs : Array Value} {Q : Value → Shared → Prop} (hh : A.handled = none) (h : Ik t s.heap i a k) (l : Sk t s.heap a xs) (e : xs[k]? = none)
  (q : ∀ g x, Heap.ExtBut i s.heap g → (∃ o, g.get? x = some o ∧ o.cls = .type "StopIteration") → Fx (.ref x) { s with heap := g }) : wpAny (model prog w) A (Builtin.SmallTypes.nextOf (.ref i)) Q Fx s := by
 cases t with
 | true => exact RZ.nextOf_tuple_end hh h l e q
 | false => exact wpAny_nextOf_list_end hh h l e q
structure Zp (t u : Bool) (g : Heap) (z p r i j a b : Addr) (k n : Nat) (v w : Value) : Prop where
 hz : IsZip g z p r .none
 hp : IsPair g p (.ref i) (.ref j)
 hr : IsPair g r v w
 hi : Ik t g i a k
 hj : Ik u g j b n
structure Zq (t u : Bool) (g g' : Heap) (z p r i j a b : Addr) (k n : Nat) (x y : Value) : Prop where
 hz : IsZip g' z p r (rawInt g.objs.size)
 hr : IsPair g' r x y
 hi : Ik t g' i a (k + 1)
 hj : Ik u g' j b (n + 1)
 new : IsPair g' g.objs.size x y
 sz : g'.objs.size = g.objs.size + 1
 old : ∀ c o, c ≠ z → c ≠ r → c ≠ i → c ≠ j → g.get? c = some o → g'.get? c = some o
theorem zk_on {t u : Bool} {z p r i j a b : Addr} {k n : Nat} {xs ys : Array Value} {x y v w0 : Value} {Q : Value → Shared → Prop} (D : ZipApart z p r i j a b) (Z : Zp t u s.heap z p r i j a b k n v w0) (sa : Sk t s.heap a xs) (sb : Sk u s.heap b ys) (ex : xs[k]? = some x) (ey : ys[n]? = some y)
  (q : ∀ g, Zq t u s.heap g z p r i j a b k n x y → Q (.ref s.heap.objs.size) { s with heap := g }) : wpAny (model prog w) A (Builtin.«zip.__next__» ⟨[.ref z], []⟩) (fun fin s' => ∃ v, fin = .done (.ret v) ∧ Q v s') Fx s := by
 obtain ⟨zz, zp, zr, zi, zj⟩ := Z
 show wpAny _ _ (field (.ref z) 2 >>= _) _ _ _; refine wpAny_bind (wpAny_field zz rfl (x := .bool false) rfl ?_)
 show wpAny _ _ (field (.ref z) 3 >>= _) _ _ _; refine wpAny_bind (wpAny_field zz rfl (x := .ref p) rfl ?_)
 refine wpAny_bind (wpAny_seqItems zp rfl ?_)
 show wpAny _ _ (Builtin.SmallTypes.ownedTupleIsFree (.ref z) >>= _) _ _ _; refine wpAny_bind ?_
 unfold Builtin.SmallTypes.ownedTupleIsFree; refine wpAny_bind (wpAny_field zz rfl (x := .none) rfl (wpAny_pure ?_))
 simp only [if_true]; refine wpAny_bind (wpAny_rule ?_)
 refine wpAny_bind (wpAny_field zz rfl (x := .ref r) rfl ?_); refine wpAny_bind (wpAny_setField_rec zz (by simp) fun g1 z1 s1 => ?_)
 replace z1 : IsZip g1 z p r .ellipsis := z1
 refine wpAny_bind ?_; simp only [List.zipIdx_cons, List.zipIdx_nil, List.forIn_cons, List.forIn_nil]
 refine wpAny_bind (wpAny_bind (wpAny_onRaise ?_)); show wpAny _ _ (Builtin.SmallTypes.nextOf (.ref i) >>= _) _ _ _
 refine wpAny_bind (step_on (zi.ext s1.extBut D.i1z) (sa.ext s1.extBut D.l1z) ex fun g2 i2 s2 => wpAny_pure ?_)
 have r2 : IsPair g2 r v w0 := s2.extBut _ _ D.TOi1 (s1.extBut _ _ D.TOz zr)
 refine wpAny_bind (wpAny_seqItems r2 rfl ?_); refine wpAny_bind (wpAny_updateSeq_pair r2 fun g3 r3 s3 => ?_)
 replace r3 : IsPair g3 r x w0 := r3
 refine wpAny_bind (wpAny_letGo (wpAny_pure ?_)); refine wpAny_bind (wpAny_bind (wpAny_onRaise ?_)); show wpAny _ _ (Builtin.SmallTypes.nextOf (.ref j) >>= _) _ _ _
 refine wpAny_bind (step_on (((zj.ext s1.extBut D.i2z).ext s2.extBut D.i12.symm).ext s3.extBut D.TOi2.symm) (((sb.ext s1.extBut D.l2z).ext s2.extBut D.l2i1).ext s3.extBut D.l2TO) ey fun g4 j4 s4 => wpAny_pure ?_)
 have r4 : IsPair g4 r x w0 := s4.extBut _ _ D.TOi2 r3
 refine wpAny_bind (wpAny_seqItems r4 rfl ?_); refine wpAny_bind (wpAny_updateSeq_pair r4 fun g5 r5 s5 => ?_)
 replace r5 : IsPair g5 r x y := r5
 refine wpAny_bind (wpAny_letGo (wpAny_pure (wpAny_pure ?_))); refine wpAny_bind (wpAny_seqItems r5 rfl ?_)
 refine wpAny_bind (wpAny_newTuple ?_)
 have z0 : g5.objs.size = s.heap.objs.size := by rw [s5.1, s4.1, s3.1, s2.1, s1.1]
 have z5 : IsZip g5 z p r .ellipsis := s5.extBut _ _ D.TOz.symm (s4.extBut _ _ D.i2z.symm (s3.extBut _ _ D.TOz.symm (s2.extBut _ _ D.i1z.symm z1)))
 have k5 : ∀ c o, c ≠ z → c ≠ r → c ≠ i → c ≠ j → s.heap.get? c = some o → g5.get? c = some o := fun c o n1 n2 n3 n4 e => s5.extBut _ _ n2 (s4.extBut _ _ n4 (s3.extBut _ _ n2 (s2.extBut _ _ n3 (s1.extBut _ _ n1 e))))
 have i5 : Ik t g5 i a (k + 1) := ((i2.ext s3.extBut D.TOi1.symm).ext s4.extBut D.i12).ext s5.extBut D.TOi1.symm
 have j5 : Ik u g5 j b (n + 1) := j4.ext s5.extBut D.TOi2.symm
 have lz : z < g5.objs.size := Heap.lt_size z5
 show wpAny _ _ (Builtin.SmallTypes.ownedTupleHandOut (.ref z) (.ref g5.objs.size) >>= _) _ _ _; refine wpAny_bind ?_
 unfold Builtin.SmallTypes.ownedTupleHandOut
 have z6 : IsZip (g5.push { cls := .type "tuple", data := .seq #[x, y] }) z p r .ellipsis := Heap.get?_push_of_some _ z5
 refine wpAny_bind (wpAny_setField_rec z6 (by simp) fun g7 z7 s7 => ?_)
 replace z7 : IsZip g7 z p r (rawInt g5.objs.size) := z7
 refine wpAny_setField_rec z7 (by simp) fun g8 z8 s8 => ?_
 replace z8 : IsZip g8 z p r (rawInt g5.objs.size) := z8
 have up : ∀ c o, c ≠ z → g5.get? c = some o → g8.get? c = some o := fun c o n1 e => s8.extBut _ _ n1 (s7.extBut _ _ n1 (Heap.get?_push_of_some _ e))
 have t8 : IsPair g8 g5.objs.size x y := s8.extBut _ _ (Nat.ne_of_gt lz) (s7.extBut _ _ (Nat.ne_of_gt lz) (Heap.get?_push_size _ rfl))
 have l8 : g8.objs.size = g5.objs.size + 1 := by rw [s8.1, s7.1, Heap.size_push]
 rw [z0] at z8 t8 l8
 refine wpAny_pure ⟨_, rfl, ?_⟩; show Q (.ref g5.objs.size) _
 rw [z0]
 exact q g8 ⟨z8, up _ _ D.TOz r5, i5.stay fun o e => up _ o D.i1z e, j5.stay fun o e => up _ o D.i2z e, t8, l8, fun c o n1 n2 n3 n4 e => up c o n1 (k5 c o n1 n2 n3 n4 e)⟩
theorem zk_off {t u : Bool} {z p r i j a b : Addr} {k n : Nat} {xs ys : Array Value} {v w0 : Value} {Q : Fin → Shared → Prop} (hh : A.handled = none) (D : ZipApart z p r i j a b) (Z : Zp t u s.heap z p r i j a b k n v w0) (sa : Sk t s.heap a xs) (sb : Sk u s.heap b ys) (fin : xs[k]? = none ∨ ys[n]? = none)
  (q : ∀ g x, (∀ c o, c ≠ z → c ≠ r → c ≠ i → c ≠ j → s.heap.get? c = some o → g.get? c = some o) → (∃ o, g.get? x = some o ∧ o.cls = .type "StopIteration") → Fx (.ref x) { s with heap := g }) : wpAny (model prog w) A (Builtin.«zip.__next__» ⟨[.ref z], []⟩) Q Fx s := by
 obtain ⟨zz, zp, zr, zi, zj⟩ := Z
 show wpAny _ _ (field (.ref z) 2 >>= _) _ _ _; refine wpAny_bind (wpAny_field zz rfl (x := .bool false) rfl ?_)
 show wpAny _ _ (field (.ref z) 3 >>= _) _ _ _; refine wpAny_bind (wpAny_field zz rfl (x := .ref p) rfl ?_)
 refine wpAny_bind (wpAny_seqItems zp rfl ?_)
 show wpAny _ _ (Builtin.SmallTypes.ownedTupleIsFree (.ref z) >>= _) _ _ _; refine wpAny_bind ?_
 unfold Builtin.SmallTypes.ownedTupleIsFree; refine wpAny_bind (wpAny_field zz rfl (x := .none) rfl (wpAny_pure ?_))
 simp only [if_true]; refine wpAny_bind (wpAny_rule ?_)
 refine wpAny_bind (wpAny_field zz rfl (x := .ref r) rfl ?_); refine wpAny_bind (wpAny_setField_rec zz (by simp) fun g1 z1 s1 => ?_)
 replace z1 : IsZip g1 z p r .ellipsis := z1
 refine wpAny_bind ?_; simp only [List.zipIdx_cons, List.zipIdx_nil, List.forIn_cons, List.forIn_nil]
 refine wpAny_bind (wpAny_bind (wpAny_onRaise ?_)); show wpAny _ _ (Builtin.SmallTypes.nextOf (.ref i) >>= _) _ _ _
 cases ex : xs[k]? with
 | none =>
  refine wpAny_bind (step_off hh (zi.ext s1.extBut D.i1z) (sa.ext s1.extBut D.l1z) ex fun g2 x s2 he => ?_)
  obtain ⟨o, ho, hc⟩ := he
  have z2 : IsZip g2 z p r .ellipsis := s2 _ _ D.i1z.symm z1
  have nz : x ≠ z := fun e => by subst e; rw [z2] at ho; cases ho; simp at hc
  refine wpAny_setField_rec z2 (by simp) fun g3 _ s3 => q g3 x (fun c o n1 _ n3 _ e => s3.extBut _ _ n1 (s2 _ _ n3 (s1.extBut _ _ n1 e))) ⟨o, s3.extBut _ _ nz ho, hc⟩
 | some x0 =>
  have ey : ys[n]? = none := fin.elim (fun h => by rw [ex] at h; cases h) id
  refine wpAny_bind (step_on (zi.ext s1.extBut D.i1z) (sa.ext s1.extBut D.l1z) ex fun g2 i2 s2 => wpAny_pure ?_)
  have r2 : IsPair g2 r v w0 := s2.extBut _ _ D.TOi1 (s1.extBut _ _ D.TOz zr)
  refine wpAny_bind (wpAny_seqItems r2 rfl ?_); refine wpAny_bind (wpAny_updateSeq_pair r2 fun g3 r3 s3 => ?_)
  refine wpAny_bind (wpAny_letGo (wpAny_pure ?_)); refine wpAny_bind (wpAny_bind (wpAny_onRaise ?_)); show wpAny _ _ (Builtin.SmallTypes.nextOf (.ref j) >>= _) _ _ _
  refine wpAny_bind (step_off hh (((zj.ext s1.extBut D.i2z).ext s2.extBut D.i12.symm).ext s3.extBut D.TOi2.symm) (((sb.ext s1.extBut D.l2z).ext s2.extBut D.l2i1).ext s3.extBut D.l2TO) ey fun g4 x s4 he => ?_)
  obtain ⟨o, ho, hc⟩ := he
  have z4 : IsZip g4 z p r .ellipsis := s4 _ _ D.i2z.symm (s3.extBut _ _ D.TOz.symm (s2.extBut _ _ D.i1z.symm z1))
  have nz : x ≠ z := fun e => by subst e; rw [z4] at ho; cases ho; simp at hc
  refine wpAny_setField_rec z4 (by simp) fun g5 _ s5 => q g5 x (fun c o n1 n2 n3 n4 e => s5.extBut _ _ n1 (s4 _ _ n4 (s3.extBut _ _ n2 (s2.extBut _ _ n3 (s1.extBut _ _ n1 e))))) ⟨o, s5.extBut _ _ nz ho, hc⟩
theorem zk_go {t u : Bool} {z p r i j a b : Addr} {k n : Nat} {xs ys : Array Value} {x y v w0 : Value} {Q : Option Value → Shared → Prop} (D : ZipApart z p r i j a b) (Z : Zp t u s.heap z p r i j a b k n v w0) (sa : Sk t s.heap a xs) (sb : Sk u s.heap b ys) (ex : xs[k]? = some x) (ey : ys[n]? = some y)
  (q : ∀ g, Zq t u s.heap g z p r i j a b k n x y → Q (some (.ref s.heap.objs.size)) { s with heap := g }) : wpAny (model prog w) A (pyNext (.ref z)) Q Fx s := by
 have ty : s.TypeIs (.ref z) "zip" := ⟨_, Z.hz, rfl⟩
 unfold pyNext
 exact wpAny_bind (wpAny_attempt (wpAny_callSpecial?_slot (name := Str.ofString "__next__") ty F.slot_zip_next (wpAny_call_entry F.slot_zip_next ty F.entry_zip_next (zk_on D Z sa sb ex ey fun g h => wpAny_pure (q g h)) (F.args_zip_next_1 _))))
theorem zk_stop {t u : Bool} {z p r i j a b : Addr} {k n : Nat} {xs ys : Array Value} {v w0 : Value} {Q : Option Value → Shared → Prop} (hh : A.handled = none) (D : ZipApart z p r i j a b) (Z : Zp t u s.heap z p r i j a b k n v w0) (sa : Sk t s.heap a xs) (sb : Sk u s.heap b ys) (fin : xs[k]? = none ∨ ys[n]? = none)
  (q : ∀ g, (∀ c o, c ≠ z → c ≠ r → c ≠ i → c ≠ j → s.heap.get? c = some o → g.get? c = some o) → Q none { s with heap := g }) : wpAny (model prog w) A (pyNext (.ref z)) Q Fx s := by
 have ty : s.TypeIs (.ref z) "zip" := ⟨_, Z.hz, rfl⟩
 unfold pyNext
 refine wpAny_bind (wpAny_attempt (wpAny_callSpecial?_slot (name := Str.ofString "__next__") ty F.slot_zip_next (wpAny_call_entry F.slot_zip_next ty F.entry_zip_next (zk_off hh D Z sa sb fin fun g x hk hx => ?_) (F.args_zip_next_1 _))))
 obtain ⟨o, ho, hc⟩ := hx
 exact wpAny_bind (wpAny_isInstance (T := "StopIteration") (b := true) ⟨o, ho, hc⟩ isSubtype_stop (wpAny_pure (q _ hk)))
end
def itO (t : Bool) (a : Addr) : Obj := { cls := .type (if t = true then "tuple_iterator" else "list_iterator"), data := .fields #[.ref a, .int 0 0] }
abbrev zg1 (t : Bool) (g : Heap) (a : Addr) : Heap := g.push (itO t a)
abbrev zg2 (t u : Bool) (g : Heap) (a b : Addr) : Heap := (zg1 t g a).push (itO u b)
abbrev zg3 (t u : Bool) (g : Heap) (a b : Addr) : Heap := (zg2 t u g a b).push { cls := .type "tuple", data := .seq #[.ref g.objs.size, .ref (zg1 t g a).objs.size] }
abbrev zg4 (t u : Bool) (g : Heap) (a b : Addr) : Heap := (zg3 t u g a b).push { cls := .type "tuple", data := .seq #[.none, .none] }
abbrev zg5 (t u : Bool) (g : Heap) (a b : Addr) : Heap := (zg4 t u g a b).push { cls := .type "zip", data := .fields #[.none, .bool false, .bool false, .ref (zg2 t u g a b).objs.size, .ref (zg3 t u g a b).objs.size] }
theorem zk_newTL (a b : Addr) (xs ys : Array Value) : Meets (Builtin.«zip.__new__» ⟨[.type "zip", .ref a, .ref b], []⟩) (fun _ R s => s.heap.IsTuple a xs ∧ s.heap.IsList b ys ∧ R (.ok (.ret (.ref (zg4 true false s.heap a b).objs.size))) { s with heap := zg5 true false s.heap a b }) :=
 .of_wp fun prog w A R s h => by
  obtain ⟨hp, g, d, tk, os⟩ := s; obtain ⟨ha, hb, h⟩ := h; have hsub := sub_zip
  have la : Heap.IsTuple (Shared.heap ⟨hp, g, d, tk, os⟩) a xs := ha
  have lb : Heap.IsList (Shared.heap ⟨hp.push { cls := .type "tuple_iterator", data := .fields #[.ref a, .int 0 0] }, g, d, tk, os⟩) b ys := Heap.IsList.push hb _
  wp_walk using wpAny_pyIter_tuple la, wpAny_pyIter_list lb
  exact ⟨_, rfl, h⟩
theorem zk_newLT (a b : Addr) (xs ys : Array Value) : Meets (Builtin.«zip.__new__» ⟨[.type "zip", .ref a, .ref b], []⟩) (fun _ R s => s.heap.IsList a xs ∧ s.heap.IsTuple b ys ∧ R (.ok (.ret (.ref (zg4 false true s.heap a b).objs.size))) { s with heap := zg5 false true s.heap a b }) :=
 .of_wp fun prog w A R s h => by
  obtain ⟨hp, g, d, tk, os⟩ := s; obtain ⟨ha, hb, h⟩ := h; have hsub := sub_zip
  have la : Heap.IsList (Shared.heap ⟨hp, g, d, tk, os⟩) a xs := ha
  have lb : Heap.IsTuple (Shared.heap ⟨hp.push { cls := .type "list_iterator", data := .fields #[.ref a, .int 0 0] }, g, d, tk, os⟩) b ys := Heap.IsTuple.push hb _
  wp_walk using wpAny_pyIter_list la, wpAny_pyIter_tuple lb
  exact ⟨_, rfl, h⟩
section
variable {prog : Program} {w : World} {A : Around} {Fx : Value → Shared → Prop} {s : Shared}
theorem zk_call {t u : Bool} {a b : Addr} {xs ys : Array Value} {Q : Value → Shared → Prop} (hne : t = !u) (sa : Sk t s.heap a xs) (sb : Sk u s.heap b ys)
  (q : ∀ g, Zp t u g (s.heap.objs.size + 4) (s.heap.objs.size + 2) (s.heap.objs.size + 3) s.heap.objs.size (s.heap.objs.size + 1) a b 0 0 .none .none → (∀ c o, s.heap.get? c = some o → g.get? c = some o) → Q (.ref (s.heap.objs.size + 4)) { s with heap := g }) :
  wpAny (model prog w) A (call (.type "zip") [.ref a, .ref b]) Q Fx s := by
 have M : Meets (Builtin.«zip.__new__» ⟨[.type "zip", .ref a, .ref b], []⟩) (fun _ R s => Sk t s.heap a xs ∧ Sk u s.heap b ys ∧ R (.ok (.ret (.ref (zg4 t u s.heap a b).objs.size))) { s with heap := zg5 t u s.heap a b }) := by
  cases u with
  | true => subst hne; exact zk_newLT a b xs ys
  | false => subst hne; exact zk_newTL a b xs ys
 refine callType_new F.called_zip (by decide) (F.typeCall_zip_2 _ _) (F.newCall_zip_2 _ _) (fun obj => F.args_object_init_3 obj _ _) F.entry_zip_new M ⟨sa, sb, ?_⟩
 have n1 : (zg1 t s.heap a).objs.size = s.heap.objs.size + 1 := Heap.size_push ..
 have n2 : (zg2 t u s.heap a b).objs.size = s.heap.objs.size + 2 := by rw [Heap.size_push, n1]
 have n3 : (zg3 t u s.heap a b).objs.size = s.heap.objs.size + 3 := by rw [Heap.size_push, n2]
 have n4 : (zg4 t u s.heap a b).objs.size = s.heap.objs.size + 4 := by rw [Heap.size_push, n3]
 have e5 : (zg5 t u s.heap a b).get? (zg4 t u s.heap a b).objs.size = some _ := Heap.get?_push_size _ rfl
 have e4 : (zg5 t u s.heap a b).get? (zg3 t u s.heap a b).objs.size = some _ := Heap.get?_push_of_some _ (Heap.get?_push_size _ rfl)
 have e3 : (zg5 t u s.heap a b).get? (zg2 t u s.heap a b).objs.size = some _ := Heap.get?_push_of_some _ (Heap.get?_push_of_some _ (Heap.get?_push_size _ rfl))
 have e2 : (zg5 t u s.heap a b).get? (zg1 t s.heap a).objs.size = some (itO u b) := Heap.get?_push_of_some _ (Heap.get?_push_of_some _ (Heap.get?_push_of_some _ (Heap.get?_push_size _ rfl)))
 have e1 : (zg5 t u s.heap a b).get? s.heap.objs.size = some (itO t a) := Heap.get?_push_of_some _ (Heap.get?_push_of_some _ (Heap.get?_push_of_some _ (Heap.get?_push_of_some _ (Heap.get?_push_size _ rfl))))
 show _ ∧ _
 rw [n2, n3, n4] at e5
 rw [n1, n2] at e3
 rw [n3] at e4; rw [n1] at e2
 rw [n4]
 have ik : ∀ (t : Bool) (g : Heap) (i a : Addr), g.get? i = some (itO t a) → Ik t g i a 0 := fun t g i a e => by
  cases t with
  | true => exact ⟨_, e, rfl, rfl⟩
  | false => exact ⟨_, e, rfl, rfl⟩
 exact ⟨⟨_, e5, rfl⟩, q _ ⟨e5, e3, e4, ik _ _ _ _ e1, ik _ _ _ _ e2⟩ fun c o x => Heap.get?_push_of_some _ (Heap.get?_push_of_some _ (Heap.get?_push_of_some _ (Heap.get?_push_of_some _ (Heap.get?_push_of_some _ x))))⟩
end
def SqK (K : PySem.W.Frag) (t : Bool) (H : Hp) (a : Addr) (xs : List V) : Prop := match t with
 | true => SqT K H a xs
 | false => SqL K H a xs
def ItzM (K : PySem.W.Frag) (t u : Bool) (a b : Addr) : It :=
 ⟨fun i H => ∃ (xs ys : List V) (x y : V), SqK K t H a xs ∧ SqK K u H b ys ∧ xs[i]? = some x ∧ ys[i]? = some y,
  fun i H v H' => ∃ T x y, v = .ref T ∧ H T = none ∧ H' = upd H T (.tup [x, y]) ∧ (∀ xs, SqK K t H a xs → xs[i]? = some x) ∧ ∀ ys, SqK K u H b ys → ys[i]? = some y,
  fun i H => ∃ xs ys : List V, SqK K t H a xs ∧ SqK K u H b ys ∧ (xs.length ≤ i ∨ ys.length ≤ i)⟩
theorem sk_of {X : Cx} {pins : List (Addr × Obj)} {σ : L2.St} {H : Hp} {s : Shared} (I : Inv X pins σ H s) {t : Bool} {a : Addr} {xs : List V} (h : SqK X.K t H a xs) : ∃ us : List Value, Vals xs us ∧ Sk t s.heap a us.toArray := by
 cases t with
 | true => obtain ⟨us, r, p, _⟩ := I.tuple h; exact ⟨us, r, p⟩
 | false => obtain ⟨us, r, p, _⟩ := I.list h; exact ⟨us, r, p.isList⟩
theorem sk_inj {X : Cx} {pins : List (Addr × Obj)} {σ : L2.St} {H : Hp} {s : Shared} (I : Inv X pins σ H s) {t : Bool} {a : Addr} {xs ys : List V} (h : SqK X.K t H a xs) (k : SqK X.K t H a ys) : xs = ys := by
 cases t with
 | true => exact I.tuple_inj h k
 | false => exact I.list_inj h k
theorem turn_zipM {P : Program} {w : World} {K : PySem.W.Frag} {t u : Bool} {elts : List Expr} {kk : Nat} {tpos : Pos} {a b z p r i1 i2 : Addr} (D : ZipApart z p r i1 i2 a b) :
  Turn P w K (.Tuple elts kk tpos) (ItzM K t u a b) [z, p, r, i1, i2] z (fun n g => ∃ x y, Zp t u g z p r i1 i2 a b n n x y) where
 mem := by simp
 obj := fun n g st c hc => by
  obtain ⟨x, y, zz, zp, zr, zi, zj⟩ := st
  obtain ⟨o1, e1, d1⟩ := zi.obj
  obtain ⟨o2, e2, d2⟩ := zj.obj
  have e : c = z ∨ c = p ∨ c = r ∨ c = i1 ∨ c = i2 := by simpa using hc
  rcases e with rfl | rfl | rfl | rfl | rfl
  ·exact ⟨_, zz, fun v q => nomatch q⟩
  ·exact ⟨_, zp, fun v q => nomatch q⟩
  ·exact ⟨_, zr, fun v q => nomatch q⟩
  ·exact ⟨o1, e1, fun v q => by rw [d1] at q; cases q⟩
  ·exact ⟨o2, e2, fun v q => by rw [d2] at q; cases q⟩
 keep := fun n g g' st k => by
  obtain ⟨x, y, zz, zp, zr, zi, zj⟩ := st
  exact ⟨x, y, k z (by simp) _ zz, k p (by simp) _ zp, k r (by simp) _ zr, zi.stay fun o q => k i1 (by simp) o q, zj.stay fun o q => k i2 (by simp) o q⟩
 item := by
  intro X hP hw hK hc n pins s σ H E I hf st hg
  subst hP hw hK
  obtain ⟨x0, y0, Z⟩ := st
  obtain ⟨xs, ys, x, y, qx, qy, hx, hy⟩ := hg
  obtain ⟨us, rx, px⟩ := sk_of I qx
  obtain ⟨vs, ry, py⟩ := sk_of I qy
  obtain ⟨u1, hu, ru⟩ := rx.get hx
  obtain ⟨v1, hv, rv⟩ := ry.get hy
  have lz : z < s.heap.objs.size := Heap.lt_size Z.hz
  refine zk_go D Z px py (x := u1) (y := v1) (by simpa using hu) (by simpa using hv) fun g W => ⟨_, rfl, wpAny_letOwnedTupleGo_zip (s := { s with heap := g }) W.hz fun g' z' sb => ?_⟩
  have hT : g'.get? s.heap.objs.size = some { cls := .type "tuple", data := .seq #[u1, v1] } := (sb.2 _ (Nat.ne_of_gt lz)).trans W.new
  have ok : ObjOk X.prog X.w (upd H s.heap.objs.size (.tup [x, y])) g' s.heap.objs.size (.tup [x, y]) := ⟨by show 2 ≤ sizeLine; decide, [u1, v1], .cons ru (.cons rv .nil), ⟨_, hT, rfl, _, rfl⟩⟩
  have I1 : Inv X pins σ (upd H s.heap.objs.size (.tup [x, y])) { s with heap := g' } := I.turnedNew (t' := s.toks) (ch := [z, p, r, i1, i2])
   (fun c o hb q => (sb.2 c (fun q' => hb (by simp [q']))).trans (W.old c o (fun q' => hb (by simp [q'])) (fun q' => hb (by simp [q'])) (fun q' => hb (by simp [q'])) (fun q' => hb (by simp [q'])) q)) hf (Nat.le_refl _) ok
  refine ⟨.ref s.heap.objs.size, _, I1, rfl, ⟨_, x, y, rfl, I.hok.fresh (Nat.le_refl _), rfl, fun l hl => by rw [sk_inj I hl qx]; exact hx, fun l hl => by rw [sk_inj I hl qy]; exact hy⟩,
   ⟨u1, v1, z', (sb.2 _ D.TIz).trans (W.old _ _ D.TIz D.TITO D.TIi1 D.TIi2 Z.hp), (sb.2 _ D.TOz).trans W.hr, W.hi.stay fun o q => (sb.2 _ D.i1z).trans q, W.hj.stay fun o q => (sb.2 _ D.i2z).trans q⟩, fun c hcm => ?_⟩
  have lt : c < s.heap.objs.size := by
   obtain ⟨_, e1, _⟩ := Z.hi.obj
   obtain ⟨_, e2, _⟩ := Z.hj.obj
   have e : c = z ∨ c = p ∨ c = r ∨ c = i1 ∨ c = i2 := by simpa using hcm
   rcases e with rfl | rfl | rfl | rfl | rfl
   ·exact lz
   ·exact Heap.lt_size Z.hp
   ·exact Heap.lt_size Z.hr
   ·exact Heap.lt_size e1
   ·exact Heap.lt_size e2
  rw [upd_ne (Nat.ne_of_lt lt)]; exact (hf c hcm).1
 done := by
  intro X hP hw hK hc n pins s σ H E I hf st hg
  subst hP hw hK
  obtain ⟨x0, y0, Z⟩ := st
  obtain ⟨xs, ys, qx, qy, fin⟩ := hg
  obtain ⟨us, rx, px⟩ := sk_of I qx
  obtain ⟨vs, ry, py⟩ := sk_of I qy
  have l1 := rx.length
  have l2 := ry.length
  have no : us.toArray[n]? = none ∨ vs.toArray[n]? = none := fin.imp (fun q => by simp; omega) fun q => by simp; omega
  exact zk_stop (I.ok.hd hc) D Z px py no fun g hk => ⟨rfl, I.turnedL (t' := s.toks) (ch := [z, p, r, i1, i2]) (fun c o hb q => hk c o (fun q' => hb (by simp [q'])) (fun q' => hb (by simp [q'])) (fun q' => hb (by simp [q'])) (fun q' => hb (by simp [q'])) q) hf⟩
 self := fun A n s Q E st h => by obtain ⟨_, _, Z⟩ := st; exact wpAny_pyIter_zip Z.hz h
section
variable {X : Cx} {C : Ctx} {ρ : Rho} {e a b tg : Expr} {ma mb : MX} {ds es' : List D} {pos p tpos : Pos} {elts : List Expr} {kk : Nat}
def iZipM (K : PySem.W.Frag) (ta : TA) : TI := fun σ H R => ta σ H fun vs H1 => ∃ a b xs ys t u, vs = [.ref a, .ref b] ∧ t = !u ∧ SqK K t H1 a xs ∧ SqK K u H1 b ys ∧ R (ItzM K t u a b) H1
theorem pi_zipM {ta : TA} (hg : Gl X "zip") (hm : X.mg "zip" = none) (ha : PA X [a, b] ta) (hs : starEach [a, b] X.env = (false, eval a X.env) :: starEach [b] X.env := by exact se_of rfl) (hpl : (backTo pos (starEach [b] X.env)).any (·.1) = false := by rfl) :
  PI X (.Tuple elts kk tpos) (.Call (.Name "zip" p) [a, b] [] pos) (iZipM X.K ta) := by
 refine ⟨fun pins s σ H R I h => Call_ (ld_blt I hg hm PyProof.Rows.boot_zip (PyProof.Rows.callWith_type1 (thn (ha.run pos pins s σ H _ I h) fun us s1 ⟨vs, H1, I1, r1, q1⟩ => ?_) hs hpl))⟩
 obtain ⟨l, m, xs, ys, t, u, ex, hne, qx, qy, q⟩ := q1
 subst ex
 obtain ⟨va, vb, rfl, ra, rb⟩ := vals2 r1
 cases (show va = Value.ref l from ra)
 cases (show vb = Value.ref m from rb)
 obtain ⟨us, rx, px⟩ := sk_of I1 qx
 obtain ⟨vs, ry, py⟩ := sk_of I1 qy
 have lt : ∀ {t : Bool} {a : Addr} {zs : Array Value}, Sk t s1.heap a zs → a < s1.heap.objs.size := fun {t a zs} h => by
  cases t with
  | true => obtain ⟨o, ho, _⟩ := h; exact Heap.lt_size ho
  | false => obtain ⟨o, ho, _⟩ := h; exact Heap.lt_size ho
 refine zk_call hne px py fun g Z hk => wpAny_pyIter_zip Z.hz ?_
 refine ⟨s1.heap.objs.size + 4, [s1.heap.objs.size + 4, s1.heap.objs.size + 2, s1.heap.objs.size + 3, s1.heap.objs.size, s1.heap.objs.size + 1], _, _, H1, rfl, I1.kept (t' := s1.toks) hk, turn_zipM (PySem.W.ktu_apart s1.heap.objs.size l m (lt px) (lt py)), ⟨_, _, Z⟩, fun c hc => ?_, q⟩
 have e : c = s1.heap.objs.size + 4 ∨ c = s1.heap.objs.size + 2 ∨ c = s1.heap.objs.size + 3 ∨ c = s1.heap.objs.size ∨ c = s1.heap.objs.size + 1 := by simpa using hc
 have le : s1.heap.objs.size ≤ c := by
  rcases e with z | z | z | z | z
  ·rw [z]; exact Nat.le_add_right _ _
  ·rw [z]; exact Nat.le_add_right _ _
  ·rw [z]; exact Nat.le_add_right _ _
  ·rw [z]; exact Nat.le_refl _
  ·rw [z]; exact Nat.le_add_right _ _
 exact I1.fpOk le (I1.hok.fresh le)
theorem SqK.mono {K : PySem.W.Frag} {t : Bool} {H H' : Hp} {a : Addr} {xs : List V} (e : Same H H') (h : SqK K t H a xs) : SqK K t H' a xs := by
 cases t with
 | true => exact Same.seqT e h
 | false => exact e.seq h
theorem yl_zipM {K : PySem.W.Frag} {t u : Bool} {V0 : Hp} {a b : Addr} {xs ys : List V} {ds es : List D} (sq : SqK K t V0 a xs) (r : Reps K V0 xs ds) (sq2 : SqK K u V0 b ys) (r2 : Reps K V0 ys es) : Yl K V0 (ItzM K t u a b) (zipD ds es) where
 go := fun C o H i l hi => by
  rw [zipD_len] at hi
  obtain ⟨v, h1, _⟩ := r.get (List.getElem?_eq_getElem (show i < ds.length by omega))
  obtain ⟨w, h2, _⟩ := r2.get (List.getElem?_eq_getElem (show i < es.length by omega))
  exact ⟨xs, ys, v, w, sq.mono l.all, sq2.mono l.all, h1, h2⟩
 yl := fun C o H i x H' l hi y => by
  rw [zipD_len] at hi
  obtain ⟨T, v, w, rfl, hT, rfl, f1, f2⟩ := y
  obtain ⟨v', h1, q1⟩ := r.get (List.getElem?_eq_getElem (show i < ds.length by omega))
  obtain ⟨w', h2, q2⟩ := r2.get (List.getElem?_eq_getElem (show i < es.length by omega))
  cases h1.symm.trans (f1 xs (sq.mono l.all))
  cases h2.symm.trans (f2 ys (sq2.mono l.all))
  exact ⟨_, zipD_get (List.getElem?_eq_getElem _) (List.getElem?_eq_getElem _), same_upd hT, yl_pair l hT q1 q2⟩
 stop := fun C o H l => ⟨xs, ys, sq.mono l.all, sq2.mono l.all, by rw [zipD_len, r.length, r2.length]; omega⟩
theorem ei_zipTL (hm : X.mg "zip" = none) (ha : EE X C ρ a (.tup ds)) (hb : EE X C ρ b (.lst es')) (hg : Gl X "zip" := by rfl) (hs : starEach [a, b] X.env = (false, eval a X.env) :: starEach [b] X.env := by exact se_of rfl) (hs2 : starEach [b] X.env = (false, eval b X.env) :: starEach [] X.env := by exact se_of rfl) (hpl : (backTo pos (starEach [b] X.env)).any (·.1) = false := by rfl) :
  EI X C ρ (.Tuple elts kk tpos) (.Call (.Name "zip" p) [a, b] [] pos) (zipD ds es') := fun σ H S R q =>
 wpI_of (pi_zipM hg hm (pa_cons pe_wp (pa_cons pe_wp pa_nil hs2) hs) hs hpl) (ha σ H S _ fun v H1 s1 r1 => hb σ H1 (S.same s1) _ fun u H2 s2 r2 => by
  cases r1 with
  | tup sq rs =>
   cases r2 with
   | lst sq2 rs2 =>
    have m := vis_same (C := C) (o := ows ρ) s2
    have i2 := ((S.same s1).same s2).visIn
    exact ⟨_, _, _, _, true, false, rfl, rfl, Same.seqT i2 (Same.seqT m (tq sq)), i2.seq sq2, q _ H2 (s1.trans s2) (yl_zipM (t := true) (u := false) (Same.seqT m (tq sq)) (Reps.mono m _ rs) sq2 rs2)⟩)
theorem ei_zipLT (hm : X.mg "zip" = none) (ha : EE X C ρ a (.lst ds)) (hb : EE X C ρ b (.tup es')) (hg : Gl X "zip" := by rfl) (hs : starEach [a, b] X.env = (false, eval a X.env) :: starEach [b] X.env := by exact se_of rfl) (hs2 : starEach [b] X.env = (false, eval b X.env) :: starEach [] X.env := by exact se_of rfl) (hpl : (backTo pos (starEach [b] X.env)).any (·.1) = false := by rfl) :
  EI X C ρ (.Tuple elts kk tpos) (.Call (.Name "zip" p) [a, b] [] pos) (zipD ds es') := fun σ H S R q =>
 wpI_of (pi_zipM hg hm (pa_cons pe_wp (pa_cons pe_wp pa_nil hs2) hs) hs hpl) (ha σ H S _ fun v H1 s1 r1 => hb σ H1 (S.same s1) _ fun u H2 s2 r2 => by
  cases r1 with
  | lst sq rs =>
   cases r2 with
   | tup sq2 rs2 =>
    have m := vis_same (C := C) (o := ows ρ) s2
    have i2 := ((S.same s1).same s2).visIn
    exact ⟨_, _, _, _, false, true, rfl, rfl, i2.seq (m.seq sq), Same.seqT i2 (tq sq2), q _ H2 (s1.trans s2) (yl_zipM (t := false) (u := true) (m.seq sq) (Reps.mono m _ rs) (tq sq2) rs2)⟩)
def zipAR : R D → R D → R (List D)
 | .ok (.lst xs), .ok (.lst ys) => .ok (zipD xs ys)
 | .ok (.tup xs), .ok (.tup ys) => .ok (zipD xs ys)
 | .ok (.tup xs), .ok (.lst ys) => .ok (zipD xs ys)
 | .ok (.lst xs), .ok (.tup ys) => .ok (zipD xs ys)
 | _, _ => .bad
def iZipA (ma mb : MX) : Fr → R (List D) := fun E => zipAR (toD (ma E)) (toD (mb E))
theorem im_zipA (hm : X.mg "zip" = none) (ha : EM X a ma) (hb : EM X b mb) (hg : Gl X "zip" := by rfl) (hs : starEach [a, b] X.env = (false, eval a X.env) :: starEach [b] X.env := by exact se_of rfl) (hs2 : starEach [b] X.env = (false, eval b X.env) :: starEach [] X.env := by exact se_of rfl)
  (hpl : (backTo pos (starEach [b] X.env)).any (·.1) = false := by rfl) : IM X (.Tuple elts kk tpos) (.Call (.Name "zip" p) [a, b] [] pos) (iZipA ma mb) := .mk fun C ρ ds q => by
 unfold iZipA zipAR at q
 split at q
 ·rename_i q1 q2; cases q; exact ei_zipL hm (ha.ee q1) (hb.ee q2) hg hs hs2 hpl
 ·rename_i q1 q2; cases q; exact ei_zipT hm (ha.ee q1) (hb.ee q2) hg hs hs2 hpl
 ·rename_i q1 q2; cases q; exact ei_zipTL hm (ha.ee q1) (hb.ee q2) hg hs hs2 hpl
 ·rename_i q1 q2; cases q; exact ei_zipLT hm (ha.ee q1) (hb.ee q2) hg hs hs2 hpl
 ·cases q
end
end DL
namespace DL
open PySem PySem.Spec PyProof.Rows L2
def ifF (r : R Bool) (f g : Fr → O) (E : Fr) : O := match r with | .ok true => f E | .ok false => g E | _ => .bad
def setV (i : Nat) (r : R RV) (E : Fr) : O := match r with | .ok (.im d) => .nx (setS E i (.im d)) | .ok (.fr ds) => .nx (setS E i (.im (.lst ds))) | .ok (.ro _) => .bad | .er n => .er n E | .bad => .bad
def setOV (i : Nat) (r : R RV) (E : Fr) : O := match r with | .ok (.im d) => .nx (setS E i (.im d)) | .ok (.fr ds) => .nx (setS E i (.ow ds)) | .ok (.ro _) => .bad | .er n => .er n E | .bad => .bad
def retMV (r : R RV) (E : Fr) : O := match r with | .ok (.im d) => .rt (.im d) | .ok (.fr ds) => .rt (.fr ds) | .ok (.ro _) => .bad | .er n => .er n E | .bad => .bad
def retS (s : Sl) : O := match s with | .im d => .rt (.im d) | .ow ds => .rt (.fr ds) | _ => .bad
def asgS (r : R (List (Nat × D))) (E : Fr) : O := match r with | .ok ss => .nx (setsF E ss) | _ => .bad
def asgV (g : D → R (List (Nat × D))) (r : R RV) (E : Fr) : O := match r with | .ok (.im d) => asgS (g d) E | .ok (.fr ds) => asgS (g (.lst ds)) E | .ok (.ro _) => .bad | .er n => .er n E | .bad => .bad
def augV (i : Nat) (s : Sl) (r : R D) (E : Fr) : O := match s with | .im (.at (.int n)) => (match r with | .ok (.at (.int k)) => .nx (setS E i (.im (.int (n + k)))) | _ => .bad) | _ => .bad
def appV (i : Nat) (s : Sl) (r : R D) (E : Fr) : O := match s with | .ow ds => (match r with | .ok d => if ds.length < sizeLine then .nx (setS E i (.ow (ds ++ [d]))) else .bad | _ => .bad) | _ => .bad
def setIxV (i : Nat) (s : Sl) (rk r : R D) (E : Fr) : O := match s with | .ow ds => (match rk with | .ok (.at (.int j)) => (match ixN ds.length j with | some n => (match r with | .ok d => .nx (setS E i (.ow (ds.set n d))) | _ => .bad) | none => .bad) | _ => .bad) | _ => .bad
def popV (i : Nat) (s : Sl) (E : Fr) : O := match s with | .ow ds => if ds.isEmpty = true then .bad else .nx (setS E i (.ow ds.dropLast)) | _ => .bad
def parV (i j : Nat) (r : R (List D)) (E : Fr) : O := match r with | .ok [d1, d2] => .nx (setS (setS E i (.im d1)) j (.im d2)) | _ => .bad
def forV (g : D → R (List (Nat × D))) (f : Fr → O) (r : R (List D)) (E : Fr) : O := match r with | .ok ds => forN g f ds E | _ => .bad
def dropV (r : R RV) (E : Fr) : O := match r with | .ok (.ro _) => .bad | .ok _ => .nx E | .er n => .er n E | .bad => .bad
def varV (s : Sl) : R RV := match s with | .im d => .ok (.im d) | .ow ds => .ok (.ro ds) | _ => .bad
def un1 (f : D → R RV) (r : R D) : R RV := match r with | .ok x => f x | _ => .bad
def bi2 (f : D → D → R RV) (r s : R D) : R RV := match r with | .ok x => (match s with | .ok y => f x y | _ => .bad) | _ => .bad
def cb2 (f : D → D → R Bool) (r s : R D) : R Bool := match r with | .ok x => (match s with | .ok y => f x y | _ => .bad) | _ => .bad
def addV (r s : R RV) : R RV := match toL r with | .ok xs => (match toL s with | .ok ys => if xs.length + ys.length ≤ sizeLine then .ok (.fr (xs ++ ys)) else .bad | _ => .bad) | _ => bi2 addD (toD r) (toD s)
def eqRV (r s : R RV) : R Bool := match toL r with | .ok xs => (match toL s with | .ok ys => if goodB (.lst xs) = true ∧ goodB (.lst ys) = true then .ok (D.eqb (.lst xs) (.lst ys)) else .bad | _ => cb2 eqD (toD r) (toD s)) | _ => cb2 eqD (toD r) (toD s)
def andF (r : R Bool) (u : Fr → R Bool) (E : Fr) : R Bool := match r with | .ok true => u E | .ok false => .ok false | _ => .bad
def orF (r : R Bool) (u : Fr → R Bool) (E : Fr) : R Bool := match r with | .ok false => u E | .ok true => .ok true | _ => .bad
def ifV (r : R Bool) (m n : MX) (E : Fr) : R RV := match r with | .ok b => eIf.blend b (toD (m E)) (toD (n E)) | _ => .bad
def freeB (s : Sl) : Bool := match s with | .ow _ => false | .od _ => false | .ot _ => false | .og _ _ => false | _ => true
def onI (f : List Int → R RV) (o : Option (List Int)) : R RV := match o with | some ns => f ns | none => .bad
def lcA (r : R (List (Nat × D))) (t : Fr → R Bool) (m : MX) (E : Fr) : R (Option D) := match r with | .ok ss => lc1.lcT (t (setsF E ss)) (toD (m (setsF E ss))) | _ => .bad
section
variable {E : Fr} {f g : Fr → O} {t u : Fr → R Bool} {m ma mb mc mk : MX} {al : Fr → R (List D)} {d x y : D} {ds xs ys : List D} {i j : Nat} {k n : Int} {b : Bool} {nm : Str} {gg : D → R (List (Nat × D))} {gs : List D → R (List (Nat × D))} {ff : List D → R Ret} {h : D → R (Option D)} {ss rs : List (Nat × D)} {mi : Fr → R (List D)}
variable {rr : Ret} {s s2 : Sl} {is js : List Nat} {fe : D → R RV} {fe2 : D → D → R RV} {fz : Int → R RV} {fz2 : Int → Int → R RV} {fc : D → D → R Bool} {v v2 : V} {b2 : Bool} {nm2 : Str} {p1 p2 : Int → Int → Bool} {k2 : Int} {x1 x2 x3 x4 x5 : D} {o1 o2 : Fr → R (Option Int)} {lo hi : Option Int} {fl : List D → R RV} {ns : List Int} {fv : List D → RV} {st : String} {sts : List String} {v0 : RV} {LL : List (Str × Bool)} {Ls : List Str} {pz pz2 : P3} {qz qz2 : P4} {rd : R D} {rl : R (List D)} {flz : List Int → R RV}
theorem ev_sq : sq f g E = (f E).then g := rfl
theorem ev_if : sIf t f g E = ifF (t E) f g E := rfl
theorem ev_then_nx : O.then (.nx E) g = g E := rfl
theorem ev_then_rt : O.then (.rt rr) g = .rt rr := rfl
theorem ev_then_bk : O.then (.bk E) g = .bk E := rfl
theorem ev_then_ct : O.then (.ct E) g = .ct E := rfl
theorem ev_then_er : O.then (.er nm E) g = .er nm E := rfl
theorem ev_ret_nx : retO (.nx E) = .ok (.im .non) := rfl
theorem ev_ret_rt : retO (.rt rr) = .ok rr := rfl
theorem ev_ret_er : retO (.er nm E) = .er nm := rfl
theorem ev_iff_t : ifF (.ok true) f g E = f E := rfl
theorem ev_iff_f : ifF (.ok false) f g E = g E := rfl
theorem ev_set : sSet i m E = setV i (m E) E := by unfold sSet setV onV; rcases m E with (_ | _ | _) | _ | _ <;> rfl
theorem ev_set_i : setV i (.ok (.im d)) E = .nx (setS E i (.im d)) := rfl
theorem ev_set_f : setV i (.ok (.fr ds)) E = .nx (setS E i (.im (.lst ds))) := rfl
theorem ev_set_e : setV i (.er nm) E = .er nm E := rfl
theorem ev_seto : sSetO i m E = setOV i (m E) E := by unfold sSetO setOV onV; rcases m E with (_ | _ | _) | _ | _ <;> rfl
theorem ev_seto_i : setOV i (.ok (.im d)) E = .nx (setS E i (.im d)) := rfl
theorem ev_seto_f : setOV i (.ok (.fr ds)) E = .nx (setS E i (.ow ds)) := rfl
theorem ev_seto_e : setOV i (.er nm) E = .er nm E := rfl
theorem ev_sret : sRet m E = retMV (m E) E := by unfold sRet retMV onV; rcases m E with (_ | _ | _) | _ | _ <;> rfl
theorem ev_sret_i : retMV (.ok (.im d)) E = .rt (.im d) := rfl
theorem ev_sret_f : retMV (.ok (.fr ds)) E = .rt (.fr ds) := rfl
theorem ev_sret_e : retMV (.er nm) E = .er nm E := rfl
theorem ev_retv : sRetV i E = retS (nthS E i) := rfl
theorem ev_retv_i : retS (.im d) = .rt (.im d) := rfl
theorem ev_retv_o : retS (.ow ds) = .rt (.fr ds) := rfl
theorem ev_retn : sRetN E = .rt (.im .non) := rfl
theorem ev_asg : sAsg gg m E = asgV gg (m E) E := by unfold sAsg asgV onV; rcases m E with (_ | _ | _) | _ | _ <;> rfl
theorem ev_asg_i : asgV gg (.ok (.im d)) E = asgS (gg d) E := rfl
theorem ev_asg_f : asgV gg (.ok (.fr ds)) E = asgS (gg (.lst ds)) E := rfl
theorem ev_asg_e : asgV gg (.er nm) E = .er nm E := rfl
theorem ev_asgs : asgS (.ok ss) E = .nx (setsF E ss) := rfl
theorem ev_aug : sAug i m E = augV i (nthS E i) (toD (m E)) E := rfl
theorem ev_aug_i : augV i (.im (.int k)) (.ok (.int n)) E = .nx (setS E i (.im (.int (k + n)))) := rfl
theorem ev_app : sApp i m E = appV i (nthS E i) (toD (m E)) E := rfl
theorem ev_setix : sSetIx i mk m E = setIxV i (nthS E i) (toD (mk E)) (toD (m E)) E := rfl
theorem ev_pop : sPop i E = popV i (nthS E i) E := rfl
theorem ev_raise : sRaise nm E = .er nm E := rfl
theorem ev_pass : sPass E = .nx E := rfl
theorem ev_break : sBreak E = .bk E := rfl
theorem ev_cont : sContinue E = .ct E := rfl
theorem ev_par : sPar i j al E = parV i j (al E) E := rfl
theorem ev_par_2 : parV i j (.ok [x, y]) E = .nx (setS (setS E i (.im x)) j (.im y)) := rfl
theorem ev_for : sFor gg mi f E = forV gg f (mi E) E := rfl
theorem ev_for_l : forV gg f (.ok ds) E = forN gg f ds E := rfl
theorem ev_for0 : forN gg f [] E = .nx E := rfl
theorem ev_drop : sDrop m E = dropV (m E) E := by unfold sDrop dropV onV; rcases m E with (_ | _ | _) | _ | _ <;> rfl
theorem ev_drop_i : dropV (.ok (.im d)) E = .nx E := rfl
theorem ev_drop_f : dropV (.ok (.fr ds)) E = .nx E := rfl
theorem ev_drop_e : dropV (.er nm) E = .er nm E := rfl
theorem ev_next_nx : nextO (.nx E) f = f E := rfl
theorem ev_next_ct : nextO (.ct E) f = f E := rfl
theorem ev_next_bk : nextO (.bk E) f = .nx E := rfl
theorem ev_next_rt : nextO (.rt rr) f = .rt rr := rfl
theorem ev_next_er : nextO (.er nm E) f = .er nm E := rfl
theorem ev_frz0 : frzs E [] = E := rfl
theorem ev_frz1 : frzs E (i :: is) = frzs (frz E i) is := rfl
theorem ev_nth0 : nthS (s :: E) 0 = s := rfl
theorem ev_nth1 : nthS (s :: E) (i + 1) = nthS E i := rfl
theorem ev_st0 : setS (s :: E) 0 s2 = s2 :: E := rfl
theorem ev_st1 : setS (s :: E) (i + 1) s2 = s :: setS E i s2 := rfl
theorem ev_sets0 : setsF E [] = E := rfl
theorem ev_sets1 : setsF E ((i, d) :: ss) = setsF (setS E i (.im d)) ss := rfl
theorem ev_wipe0 : wipeF E [] = E := rfl
theorem ev_wipe1 : wipeF E (i :: is) = setS (wipeF E is) i .no := rfl
theorem ev_gname : gName i d = .ok [(i, d)] := rfl
theorem ev_gtup_t : gTup gs (.tup ds) = gs ds := rfl
theorem ev_gtup_l : gTup gs (.lst ds) = gs ds := rfl
theorem ev_gcons : gCons gg gs (d :: ds) = appR (gg d) (gs ds) := rfl
theorem ev_gnil : gNil [] = .ok [] := rfl
theorem ev_appr : appR (.ok ss) (.ok rs) = .ok (ss ++ rs) := rfl
theorem ev_var : eVar i E = varV (nthS E i) := rfl
theorem ev_var_i : varV (.im d) = .ok (.im d) := rfl
theorem ev_var_o : varV (.ow ds) = .ok (.ro ds) := rfl
theorem ev_c : eC d E = .ok (.im d) := rfl
theorem ev_tod_i : toD (.ok (.im d)) = .ok d := rfl
theorem ev_tod_f : toD (.ok (.fr ds)) = .ok (.lst ds) := rfl
theorem ev_tol_i : toL (.ok (.im (.lst ds))) = .ok ds := rfl
theorem ev_tol_f : toL (.ok (.fr ds)) = .ok ds := rfl
theorem ev_tol_o : toL (.ok (.ro ds)) = .ok ds := rfl
theorem ev_toa_i : toA (.ok (.im d)) = .ok d := rfl
theorem ev_toa_f : toA (.ok (.fr ds)) = .ok (.lst ds) := rfl
theorem ev_toa_o : toA (.ok (.ro ds)) = .ok (.lst ds) := rfl
theorem ev_e1 : e1 fe m E = un1 fe (toD (m E)) := rfl
theorem ev_un1 : un1 fe (.ok x) = fe x := rfl
theorem ev_e2 : e2 fe2 ma mb E = bi2 fe2 (toD (ma E)) (toD (mb E)) := rfl
theorem ev_bi2 : bi2 fe2 (.ok x) (.ok y) = fe2 x y := rfl
theorem ev_int1 : int1 fz (.int k) = fz k := rfl
theorem ev_int2 : int2 fz2 (.int k) (.int n) = fz2 k n := rfl
theorem ev_sub : subZ k n = .ok (.im (.int (k - n))) := rfl
theorem ev_neg : negZ k = .ok (.im (.int (-k))) := rfl
theorem ev_abs : absZ k = .ok (.im (.int k.natAbs)) := rfl
theorem ev_max : maxZ k n = .ok (.im (.int (max k n))) := rfl
theorem ev_min : minZ k n = .ok (.im (.int (min k n))) := rfl
theorem ev_add : eAdd ma mb E = addV (ma E) (mb E) := rfl
theorem ev_add_i : addV (.ok (.im (.int k))) (.ok (.im (.int n))) = .ok (.im (.int (k + n))) := rfl
theorem ev_c2 : c2 fc ma mb E = cb2 fc (toD (ma E)) (toD (mb E)) := rfl
theorem ev_cb2 : cb2 fc (.ok x) (.ok y) = fc x y := rfl
theorem ev_lt : ltD (.int k) (.int n) = .ok (decide (k < n)) := rfl
theorem ev_le : leD (.int k) (.int n) = .ok (decide (k ≤ n)) := rfl
theorem ev_gt : gtD (.int k) (.int n) = .ok (decide (n < k)) := rfl
theorem ev_ge : geD (.int k) (.int n) = .ok (decide (n ≤ k)) := rfl
theorem ev_eq : cEq ma mb E = eqRV (ma E) (mb E) := rfl
theorem ev_ne : cNe ma mb E = notR (eqRV (ma E) (mb E)) := rfl
theorem ev_eqi : eqRV (.ok (.im (.at v))) (.ok (.im (.at v2))) = eqD (.at v) (.at v2) := rfl
theorem ev_eqd_i : eqD (.int k) (.int n) = .ok (decide (k = n)) := rfl
theorem ev_eqd_b : eqD (.bl b) (.bl b2) = .ok (b == b2) := rfl
theorem ev_eqd_s : eqD (.str nm) (.str nm2) = .ok (nm == nm2) := rfl
theorem ev_eqt : eqRV (.ok (.im (.tup xs))) (.ok (.im (.tup ys))) = eqD (.tup xs) (.tup ys) := rfl
theorem ev_eqat : eqRV (.ok (.im (.at v))) (.ok (.im (.tup ys))) = eqD (.at v) (.tup ys) := rfl
theorem ev_eqta : eqRV (.ok (.im (.tup ys))) (.ok (.im (.at v))) = eqD (.tup ys) (.at v) := rfl
theorem ev_eql_ii : eqRV (.ok (.im (.lst xs))) (.ok (.im (.lst ys))) = eqD (.lst xs) (.lst ys) := rfl
theorem ev_eql_if : eqRV (.ok (.im (.lst xs))) (.ok (.fr ys)) = eqD (.lst xs) (.lst ys) := rfl
theorem ev_eql_io : eqRV (.ok (.im (.lst xs))) (.ok (.ro ys)) = eqD (.lst xs) (.lst ys) := rfl
theorem ev_eql_fi : eqRV (.ok (.fr xs)) (.ok (.im (.lst ys))) = eqD (.lst xs) (.lst ys) := rfl
theorem ev_eql_ff : eqRV (.ok (.fr xs)) (.ok (.fr ys)) = eqD (.lst xs) (.lst ys) := rfl
theorem ev_eql_fo : eqRV (.ok (.fr xs)) (.ok (.ro ys)) = eqD (.lst xs) (.lst ys) := rfl
theorem ev_eql_oi : eqRV (.ok (.ro xs)) (.ok (.im (.lst ys))) = eqD (.lst xs) (.lst ys) := rfl
theorem ev_eql_of : eqRV (.ok (.ro xs)) (.ok (.fr ys)) = eqD (.lst xs) (.lst ys) := rfl
theorem ev_eql_oo : eqRV (.ok (.ro xs)) (.ok (.ro ys)) = eqD (.lst xs) (.lst ys) := rfl
theorem ev_not : notR (.ok b) = .ok (!b) := rfl
theorem ev_isn : cIsN m E = nonR (m E) := rfl
theorem ev_notn : cNotN m E = notR (nonR (m E)) := rfl
theorem ev_non_i : nonR (.ok (.im d)) = .ok d.isNon := rfl
theorem ev_non_f : nonR (.ok (.fr ds)) = .ok false := rfl
theorem ev_non_o : nonR (.ok (.ro ds)) = .ok false := rfl
theorem ev_isnon_n : D.isNon (.non) = true := rfl
theorem ev_isnon_i : D.isNon (.int k) = false := rfl
theorem ev_isnon_b : D.isNon (.bl b) = false := rfl
theorem ev_isnon_s : D.isNon (.str nm) = false := rfl
theorem ev_isnon_t : D.isNon (.tup ds) = false := rfl
theorem ev_isnon_l : D.isNon (.lst ds) = false := rfl
theorem ev_cmp : eCmp t E = blR (t E) := rfl
theorem ev_blr : blR (.ok b) = .ok (.im (.bl b)) := rfl
theorem ev_bolr : bolR (.ok (.im (.bl b))) = .ok b := rfl
theorem ev_tand : tAnd t u E = andF (t E) u E := rfl
theorem ev_tand_t : andF (.ok true) u E = u E := rfl
theorem ev_tand_f : andF (.ok false) u E = .ok false := rfl
theorem ev_tor : tOr t u E = orF (t E) u E := rfl
theorem ev_tor_t : orF (.ok true) u E = .ok true := rfl
theorem ev_tor_f : orF (.ok false) u E = u E := rfl
theorem ev_tnot : tNot t E = notR (t E) := rfl
theorem ev_eand : eAnd ma mb E = blR (tAnd (fun E => bolR (ma E)) (fun E => bolR (mb E)) E) := rfl
theorem ev_eor : eOr ma mb E = blR (tOr (fun E => bolR (ma E)) (fun E => bolR (mb E)) E) := rfl
theorem ev_enot : eNot m E = blR (notR (bolR (m E))) := rfl
theorem ev_tval : tVal m E = truR (m E) := rfl
theorem ev_tru_b : truR (.ok (.im (.bl b))) = .ok b := rfl
theorem ev_tru_l : truR (.ok (.im (.lst ds))) = .ok (!ds.isEmpty) := rfl
theorem ev_tru_f : truR (.ok (.fr ds)) = .ok (!ds.isEmpty) := rfl
theorem ev_tru_o : truR (.ok (.ro ds)) = .ok (!ds.isEmpty) := rfl
theorem ev_ifx : eIf t ma mb E = ifV (t E) ma mb E := rfl
theorem ev_chain : cChain p1 p2 ma mb mc E = chainR p1 p2 (toD (ma E)) (toD (mb E)) (toD (mc E)) := rfl
theorem ev_chain_i : chainR p1 p2 (.ok (.int k)) (.ok (.int n)) (.ok (.int k2)) = .ok (p1 k n && p2 n k2) := rfl
theorem ev_anil : aNil E = .ok [] := rfl
theorem ev_acons : aCons m al E = consR (toD (m E)) (al E) := rfl
theorem ev_lcons : lCons m al E = consR (toA (m E)) (al E) := rfl
theorem ev_consr : consR (.ok d) (.ok ds) = .ok (d :: ds) := rfl
theorem ev_tup : eTup al E = tupR (al E) := rfl
theorem ev_tupr : tupR (.ok ds) = .ok (.im (.tup ds)) := rfl
theorem ev_lst : eLst al E = lstR (al E) := rfl
theorem ev_lstr : lstR (.ok ds) = .ok (.fr ds) := rfl
theorem ev_ix : eIx m mk E = ixR (m E) (toD (mk E)) := rfl
theorem ev_ix_t : ixR (.ok (.im (.tup ds))) (.ok (.int k)) = atR ds k := rfl
theorem ev_ix_l : ixR (.ok (.im (.lst ds))) (.ok (.int k)) = atR ds k := rfl
theorem ev_ix_f : ixR (.ok (.fr ds)) (.ok (.int k)) = atR ds k := rfl
theorem ev_ix_o : ixR (.ok (.ro ds)) (.ok (.int k)) = atR ds k := rfl
theorem ev_at0 : atR (x :: ds) 0 = .ok (.im x) := atR_ok (show atI (x :: ds) ((0 : Nat) : Int) = _ from atI_nat rfl)
theorem ev_at1 : atR (x :: x1 :: ds) 1 = .ok (.im x1) := atR_ok (show atI (x :: x1 :: ds) ((1 : Nat) : Int) = _ from atI_nat rfl)
theorem ev_at2 : atR (x :: x1 :: x2 :: ds) 2 = .ok (.im x2) := atR_ok (show atI (x :: x1 :: x2 :: ds) ((2 : Nat) : Int) = _ from atI_nat rfl)
theorem ev_at3 : atR (x :: x1 :: x2 :: x3 :: ds) 3 = .ok (.im x3) := atR_ok (show atI (x :: x1 :: x2 :: x3 :: ds) ((3 : Nat) : Int) = _ from atI_nat rfl)
theorem ev_at4 : atR (x :: x1 :: x2 :: x3 :: x4 :: ds) 4 = .ok (.im x4) := atR_ok (show atI (x :: x1 :: x2 :: x3 :: x4 :: ds) ((4 : Nat) : Int) = _ from atI_nat rfl)
theorem ev_at5 : atR (x :: x1 :: x2 :: x3 :: x4 :: x5 :: ds) 5 = .ok (.im x5) := atR_ok (show atI (x :: x1 :: x2 :: x3 :: x4 :: x5 :: ds) ((5 : Nat) : Int) = _ from atI_nat rfl)
theorem ev_onone : oNone E = .ok none := rfl
theorem ev_osome : oSome m E = intR (toD (m E)) := rfl
theorem ev_intr : intR (.ok (.int k)) = .ok (some k) := rfl
theorem ev_sl : eSl m o1 o2 E = slR (m E) (o1 E) (o2 E) := rfl
theorem ev_sl_i : slR (.ok (.im (.lst ds))) (.ok lo) (.ok hi) = .ok (.fr (cutD ds lo hi)) := rfl
theorem ev_sl_f : slR (.ok (.fr ds)) (.ok lo) (.ok hi) = .ok (.fr (cutD ds lo hi)) := rfl
theorem ev_sl_o : slR (.ok (.ro ds)) (.ok lo) (.ok hi) = .ok (.fr (cutD ds lo hi)) := rfl
theorem ev_rev : eRev m E = lstR (eRev.revR (toL (m E))) := rfl
theorem ev_revr : eRev.revR (.ok ds) = .ok ds.reverse := rfl
theorem ev_len : eLen m E = lenR (m E) := rfl
theorem ev_len_t : lenR (.ok (.im (.tup ds))) = .ok (.im (.int ds.length)) := rfl
theorem ev_len_i : lenR (.ok (.im (.lst ds))) = .ok (.im (.int ds.length)) := rfl
theorem ev_len_f : lenR (.ok (.fr ds)) = .ok (.im (.int ds.length)) := rfl
theorem ev_len_o : lenR (.ok (.ro ds)) = .ok (.im (.int ds.length)) := rfl
theorem ev_suml : eSum m E = mapL (onInts sumI) (toL (m E)) := rfl
theorem ev_minl : eMinL m E = mapL (onInts minR) (toL (m E)) := rfl
theorem ev_maxl : eMaxL m E = mapL (onInts maxR) (toL (m E)) := rfl
theorem ev_mapl : mapL fl (.ok ds) = fl ds := rfl
theorem ev_sumi : sumI ns = .ok (.im (.int ns.sum)) := rfl
theorem ev_tuple : eTuple m E = seqR imTup (m E) := rfl
theorem ev_list : eList m E = seqR .fr (m E) := rfl
theorem ev_seq_t : seqR fv (.ok (.im (.tup ds))) = .ok (fv ds) := rfl
theorem ev_seq_i : seqR fv (.ok (.im (.lst ds))) = .ok (fv ds) := rfl
theorem ev_seq_f : seqR fv (.ok (.fr ds)) = .ok (fv ds) := rfl
theorem ev_seq_o : seqR fv (.ok (.ro ds)) = .ok (fv ds) := rfl
theorem ev_imtup : imTup ds = .im (.tup ds) := rfl
theorem ev_isi : eIsi m st E = isiR st (toA (m E)) := rfl
theorem ev_isit : eIsiT m sts E = isiTR sts (toD (m E)) := rfl
theorem ev_isi_n : isiR st (.ok (.non)) = .ok (.im (.bl (tyB "NoneType" st))) := rfl
theorem ev_isit_n : isiTR sts (.ok (.non)) = .ok (.im (.bl (sts.any (tyB "NoneType")))) := rfl
theorem ev_isi_b : isiR st (.ok (.bl b)) = .ok (.im (.bl (tyB "bool" st))) := rfl
theorem ev_isit_b : isiTR sts (.ok (.bl b)) = .ok (.im (.bl (sts.any (tyB "bool")))) := rfl
theorem ev_isi_i : isiR st (.ok (.int k)) = .ok (.im (.bl (tyB "int" st))) := rfl
theorem ev_isit_i : isiTR sts (.ok (.int k)) = .ok (.im (.bl (sts.any (tyB "int")))) := rfl
theorem ev_isi_s : isiR st (.ok (.str nm)) = .ok (.im (.bl (tyB "str" st))) := rfl
theorem ev_isit_s : isiTR sts (.ok (.str nm)) = .ok (.im (.bl (sts.any (tyB "str")))) := rfl
theorem ev_isi_t : isiR st (.ok (.tup ds)) = .ok (.im (.bl (tyB "tuple" st))) := rfl
theorem ev_isit_t : isiTR sts (.ok (.tup ds)) = .ok (.im (.bl (sts.any (tyB "tuple")))) := rfl
theorem ev_isi_l : isiR st (.ok (.lst ds)) = .ok (.im (.bl (tyB "list" st))) := rfl
theorem ev_isit_l : isiTR sts (.ok (.lst ds)) = .ok (.im (.bl (sts.any (tyB "list")))) := rfl
theorem ev_call : eCall ff al E = callR ff (al E) := rfl
theorem ev_callr : callR ff (.ok ds) = retV (ff ds) := rfl
theorem ev_retw_i : retV (.ok (.im d)) = .ok (.im d) := rfl
theorem ev_retw_f : retV (.ok (.fr ds)) = .ok (.fr ds) := rfl
theorem ev_retw_e : retV (.er nm) = .er nm := rfl
theorem ev_calld : eCallD ff al E = imOnly (callR ff (nonD (al E))) := rfl
theorem ev_nond : nonD (.ok ds) = .ok (ds ++ [.non]) := rfl
theorem ev_imonly : imOnly (.ok (.im d)) = .ok (.im d) := rfl
theorem ev_callk : eCallK ff al mk E = imOnly (callR ff (snocR (al E) (toD (mk E)))) := rfl
theorem ev_snoc : snocR (.ok ds) (.ok d) = .ok (ds ++ [d]) := rfl
theorem ev_callo : eCallO ff al E = callN ff (al E) := rfl
theorem ev_calln : callN ff (.ok ds) = retN (ff ds) := rfl
theorem ev_call0 : eCall0 ff E = noEr (retV (ff [])) := rfl
theorem ev_noer_i : noEr (.ok v0) = .ok v0 := rfl
theorem ev_lc : eLc js gg mi t m E = lcGo (mi E) (freeS E js) (lc1 gg t m (wipeF E js)) := rfl
theorem ev_ttrue : tTrue E = .ok true := rfl
theorem ev_ival : iVal m E = itR (m E) := rfl
theorem ev_it_t : itR (.ok (.im (.tup ds))) = .ok ds := rfl
theorem ev_it_i : itR (.ok (.im (.lst ds))) = .ok ds := rfl
theorem ev_it_f : itR (.ok (.fr ds)) = .ok ds := rfl
theorem ev_izip : iZipA ma mb E = zipAR (toD (ma E)) (toD (mb E)) := rfl
theorem ev_zip_ll : zipAR (.ok (.lst xs)) (.ok (.lst ys)) = .ok (zipD xs ys) := rfl
theorem ev_zip_lt : zipAR (.ok (.lst xs)) (.ok (.tup ys)) = .ok (zipD xs ys) := rfl
theorem ev_zip_tl : zipAR (.ok (.tup xs)) (.ok (.lst ys)) = .ok (zipD xs ys) := rfl
theorem ev_zip_tt : zipAR (.ok (.tup xs)) (.ok (.tup ys)) = .ok (zipD xs ys) := rfl
theorem ev_int : eInt m E = intcR (toD (m E)) := rfl
theorem ev_int_b : intcR (.ok (.bl b)) = .ok (.im (.int (if b = true then 1 else 0))) := rfl
theorem ev_int_i : intcR (.ok (.int k)) = .ok (.im (.int k)) := rfl
theorem ev_rg1 : iRange1 m E = rng1 (toD (m E)) := rfl
theorem ev_rg2 : iRange2 ma mb E = rng2 (toD (ma E)) (toD (mb E)) := rfl
theorem ev_rg3 : iRange3 ma mb mc E = rng3 (toD (ma E)) (toD (mb E)) (toD (mc E)) := rfl
theorem ev_inl : cIn ma mb E = inR (toD (ma E)) (toL (mb E)) := rfl
theorem ev_nin : cNotIn ma mb E = notR (inR (toD (ma E)) (toL (mb E))) := rfl
theorem ev_int_ : cInT ma mb E = inTR (toD (ma E)) (toD (mb E)) := rfl
theorem ev_nint : cNotInT ma mb E = notR (inTR (toD (ma E)) (toD (mb E))) := rfl
theorem ev_isb : cIsB b m E = isBR b (toD (m E)) := rfl
theorem ev_isbr : isBR b (.ok d) = .ok (d.isBl b) := rfl
theorem ev_isx : eIsx m nm LL E = isxR nm LL (toD (m E)) := rfl
theorem ev_try : sTry i Ls f g E = tryO i Ls (f E) g := rfl
theorem ev_try_nx : tryO i Ls (.nx E) g = .nx E := rfl
theorem ev_try_rt : tryO i Ls (.rt rr) g = .rt rr := rfl
theorem ev_lc1 : lc1 gg t m E d = lcA (gg d) t m E := rfl
theorem ev_lca : lcA (.ok ss) t m E = lc1.lcT (t (setsF E ss)) (toD (m (setsF E ss))) := rfl
theorem ev_lct_t : lc1.lcT (.ok true) (.ok x) = .ok (some x) := rfl
theorem ev_lct_f : lc1.lcT (.ok false) rd = .ok none := rfl
theorem ev_free0 : freeS E [] = true := rfl
theorem ev_free1 : freeS E (i :: js) = (freeB (nthS E i) && freeS E js) := rfl
theorem ev_free_n : freeB .no = true := rfl
theorem ev_free_i : freeB (.im d) = true := rfl
theorem ev_free_o : freeB (.ow ds) = false := rfl
theorem ev_lcn0 : lcN h [] = .ok [] := rfl
theorem ev_lcn1 : lcN h (d :: ds) = optR (h d) (lcN h ds) := rfl
theorem ev_opt_s : optR (.ok (some d)) (.ok ds) = .ok (d :: ds) := rfl
theorem ev_opt_n : optR (.ok none) rl = rl := rfl
theorem ev_oni : onInts flz ds = onI flz (intsOf ds) := rfl
theorem ev_oni_s : onI flz (some ns) = flz ns := rfl
theorem ev_ints0 : intsOf [] = some [] := rfl
theorem ev_ints1 : intsOf (.int k :: ds) = (intsOf ds).map (k :: ·) := rfl
theorem ev_ty_NoneType_int : tyB "NoneType" "int" = false := by decide
theorem ev_ty_NoneType_bool : tyB "NoneType" "bool" = false := by decide
theorem ev_ty_NoneType_str : tyB "NoneType" "str" = false := by decide
theorem ev_ty_NoneType_tuple : tyB "NoneType" "tuple" = false := by decide
theorem ev_ty_NoneType_list : tyB "NoneType" "list" = false := by decide
theorem ev_ty_bool_int : tyB "bool" "int" = true := by decide
theorem ev_ty_bool_bool : tyB "bool" "bool" = true := by decide
theorem ev_ty_bool_str : tyB "bool" "str" = false := by decide
theorem ev_ty_bool_tuple : tyB "bool" "tuple" = false := by decide
theorem ev_ty_bool_list : tyB "bool" "list" = false := by decide
theorem ev_ty_int_int : tyB "int" "int" = true := by decide
theorem ev_ty_int_bool : tyB "int" "bool" = false := by decide
theorem ev_ty_int_str : tyB "int" "str" = false := by decide
theorem ev_ty_int_tuple : tyB "int" "tuple" = false := by decide
theorem ev_ty_int_list : tyB "int" "list" = false := by decide
theorem ev_ty_str_int : tyB "str" "int" = false := by decide
theorem ev_ty_str_bool : tyB "str" "bool" = false := by decide
theorem ev_ty_str_str : tyB "str" "str" = true := by decide
theorem ev_ty_str_tuple : tyB "str" "tuple" = false := by decide
theorem ev_ty_str_list : tyB "str" "list" = false := by decide
theorem ev_ty_tuple_int : tyB "tuple" "int" = false := by decide
theorem ev_ty_tuple_bool : tyB "tuple" "bool" = false := by decide
theorem ev_ty_tuple_str : tyB "tuple" "str" = false := by decide
theorem ev_ty_tuple_tuple : tyB "tuple" "tuple" = true := by decide
theorem ev_ty_tuple_list : tyB "tuple" "list" = false := by decide
theorem ev_ty_list_int : tyB "list" "int" = false := by decide
theorem ev_ty_list_bool : tyB "list" "bool" = false := by decide
theorem ev_ty_list_str : tyB "list" "str" = false := by decide
theorem ev_ty_list_tuple : tyB "list" "tuple" = false := by decide
theorem ev_ty_list_list : tyB "list" "list" = true := by decide
theorem ev_t3ix0 : ixR (.ok (.im (t3 pz))) (.ok (.int 0)) = .ok (.im (.int pz.1)) := rfl
theorem ev_t3ix1 : ixR (.ok (.im (t3 pz))) (.ok (.int 1)) = .ok (.im (.int pz.2.1)) := rfl
theorem ev_t3ix2 : ixR (.ok (.im (t3 pz))) (.ok (.int 2)) = .ok (.im (.int pz.2.2)) := rfl
theorem ev_t3tup : gTup gs (t3 pz) = gs [.int pz.1, .int pz.2.1, .int pz.2.2] := rfl
theorem ev_t3len : lenR (.ok (.im (t3 pz))) = .ok (.im (.int 3)) := rfl
theorem ev_t3isi : isiR st (.ok (t3 pz)) = .ok (.im (.bl (tyB "tuple" st))) := rfl
theorem ev_t3non : (t3 pz).isNon = false := rfl
theorem ev_q4ix0 : ixR (.ok (.im (q4 qz))) (.ok (.int 0)) = .ok (.im (.int qz.1)) := rfl
theorem ev_q4ix1 : ixR (.ok (.im (q4 qz))) (.ok (.int 1)) = .ok (.im (.int qz.2.1)) := rfl
theorem ev_q4ix2 : ixR (.ok (.im (q4 qz))) (.ok (.int 2)) = .ok (.im (.int qz.2.2.1)) := rfl
theorem ev_q4ix3 : ixR (.ok (.im (q4 qz))) (.ok (.int 3)) = .ok (.im (.int qz.2.2.2)) := rfl
theorem ev_q4tup : gTup gs (q4 qz) = gs [.int qz.1, .int qz.2.1, .int qz.2.2.1, .int qz.2.2.2] := rfl
theorem ev_q4len : lenR (.ok (.im (q4 qz))) = .ok (.im (.int 4)) := rfl
theorem ev_q4isi : isiR st (.ok (q4 qz)) = .ok (.im (.bl (tyB "tuple" st))) := rfl
theorem ev_q4non : (q4 qz).isNon = false := rfl
theorem ev_t3eq : eqRV (.ok (.im (t3 pz))) (.ok (.im (t3 pz2))) = eqD (t3 pz) (t3 pz2) := rfl
theorem ev_q4eq : eqRV (.ok (.im (q4 qz))) (.ok (.im (q4 qz2))) = eqD (q4 qz) (q4 qz2) := rfl
theorem ev_t3noL : retN (.ok (.im (t3 pz))) = .ok (.im (t3 pz)) := rfl
theorem ev_nc0 : (((0 : Nat)) : Int) = 0 := rfl
theorem ev_nc1 : (((1 : Nat)) : Int) = 1 := rfl
theorem ev_nc2 : (((2 : Nat)) : Int) = 2 := rfl
theorem ev_nc3 : (((3 : Nat)) : Int) = 3 := rfl
theorem ev_nc4 : (((4 : Nat)) : Int) = 4 := rfl
theorem ev_nc5 : (((5 : Nat)) : Int) = 5 := rfl
theorem ev_nc6 : (((6 : Nat)) : Int) = 6 := rfl
theorem ev_nc7 : (((7 : Nat)) : Int) = 7 := rfl
theorem ev_nc8 : (((8 : Nat)) : Int) = 8 := rfl
theorem ev_nc9 : (((9 : Nat)) : Int) = 9 := rfl
theorem ev_nc10 : (((10 : Nat)) : Int) = 10 := rfl
theorem ev_nc11 : (((11 : Nat)) : Int) = 11 := rfl
theorem ev_nc12 : (((12 : Nat)) : Int) = 12 := rfl
theorem ev_nc13 : (((13 : Nat)) : Int) = 13 := rfl
theorem ev_nc14 : (((14 : Nat)) : Int) = 14 := rfl
theorem ev_nc15 : (((15 : Nat)) : Int) = 15 := rfl
theorem ev_nc16 : (((16 : Nat)) : Int) = 16 := rfl
theorem ev_nc17 : (((17 : Nat)) : Int) = 17 := rfl
theorem ev_nc18 : (((18 : Nat)) : Int) = 18 := rfl
theorem ev_nc19 : (((19 : Nat)) : Int) = 19 := rfl
theorem ev_nc20 : (((20 : Nat)) : Int) = 20 := rfl
theorem ev_nc21 : (((21 : Nat)) : Int) = 21 := rfl
theorem ev_nc22 : (((22 : Nat)) : Int) = 22 := rfl
theorem ev_nc23 : (((23 : Nat)) : Int) = 23 := rfl
theorem ev_nc24 : (((24 : Nat)) : Int) = 24 := rfl
theorem ev_nc25 : (((25 : Nat)) : Int) = 25 := rfl
theorem ev_nc26 : (((26 : Nat)) : Int) = 26 := rfl
theorem ev_nc27 : (((27 : Nat)) : Int) = 27 := rfl
theorem ev_nc28 : (((28 : Nat)) : Int) = 28 := rfl
theorem ev_nc29 : (((29 : Nat)) : Int) = 29 := rfl
theorem ev_nc30 : (((30 : Nat)) : Int) = 30 := rfl
theorem ev_nc31 : (((31 : Nat)) : Int) = 31 := rfl
theorem ev_nc32 : (((32 : Nat)) : Int) = 32 := rfl
theorem ev_nc33 : (((33 : Nat)) : Int) = 33 := rfl
theorem ev_nc34 : (((34 : Nat)) : Int) = 34 := rfl
theorem ev_nc35 : (((35 : Nat)) : Int) = 35 := rfl
theorem ev_nc36 : (((36 : Nat)) : Int) = 36 := rfl
theorem ev_nc37 : (((37 : Nat)) : Int) = 37 := rfl
theorem ev_nc38 : (((38 : Nat)) : Int) = 38 := rfl
theorem ev_nc39 : (((39 : Nat)) : Int) = 39 := rfl
theorem ev_nc40 : (((40 : Nat)) : Int) = 40 := rfl
end
theorem ifO_dec {p : Prop} [Decidable p] {x y : O} : ifO (.ok (decide p)) x y = if p then x else y := by
 by_cases h : p
 ·rw [if_pos h, decide_eq_true h]; rfl
 ·rw [if_neg h, decide_eq_false h]; rfl
theorem ifF_dec {p : Prop} [Decidable p] {f g : Fr → O} {E : Fr} : ifF (.ok (decide p)) f g E = if p then f E else g E := ifO_dec
theorem ifF_bool {b : Bool} {f g : Fr → O} {E : Fr} : ifF (.ok b) f g E = if b = true then f E else g E := by cases b <;> rfl
theorem andF_bool {b : Bool} {u : Fr → R Bool} {E : Fr} : andF (.ok b) u E = if b = true then u E else .ok false := by cases b <;> rfl
theorem orF_bool {b : Bool} {u : Fr → R Bool} {E : Fr} : orF (.ok b) u E = if b = true then .ok true else u E := by cases b <;> rfl
theorem then_ite {p : Prop} [Decidable p] {x y : O} {g : Fr → O} : O.then (if p then x else y) g = if p then x.then g else y.then g := by split <;> rfl
theorem retO_ite {p : Prop} [Decidable p] {x y : O} : retO (if p then x else y) = if p then retO x else retO y := by split <;> rfl
theorem ints_snoc (ns : List Int) (z : Int) : D.ints ns ++ [D.int z] = D.ints (ns ++ [z]) := by rw [D.ints, D.ints, List.map_append]; rfl
theorem quads_snoc (ns : List P4) (z : P4) : D.quads ns ++ [q4 z] = D.quads (ns ++ [z]) := by rw [D.quads, D.quads, List.map_append]; rfl
theorem all_snoc {α : Type} {p : α → Prop} {l : List α} {x : α} (h : ∀ y ∈ l, p y) (k : p x) : ∀ y ∈ l ++ [x], p y := fun y hy => (List.mem_append.mp hy).elim (h y) fun z => by rw [List.mem_singleton.mp z]; exact k
theorem cpow_mk {i j : Int} (h1 : 0 ≤ j) (h2 : j ≤ 1000000) (h3 : i.natAbs < 2 ^ 64) : CPow i j := ⟨h1, h2, h3⟩
theorem lcT_b {b : Bool} {x : D} : lc1.lcT (.ok b) (.ok x) = .ok (if b = true then some x else none) := by cases b <;> rfl
theorem ints_map {α : Type} (f : α → Int) (l : List α) : (l.map fun x => D.int (f x)) = D.ints (l.map f) := by simp [D.ints, Function.comp_def]
theorem appV_ok {i : Nat} {ds : List D} {d : D} {E : Fr} (h : ds.length < sizeLine) : appV i (.ow ds) (.ok d) E = .nx (setS E i (.ow (ds ++ [d]))) := if_pos h
theorem addL_ff {xs ys : List D} (h : xs.length + ys.length ≤ sizeLine) : addV (.ok (.fr xs)) (.ok (.fr ys)) = .ok (.fr (xs ++ ys)) := if_pos h
theorem addL_ii {xs ys : List D} (h : xs.length + ys.length ≤ sizeLine) : addV (.ok (.im (.lst xs))) (.ok (.im (.lst ys))) = .ok (.fr (xs ++ ys)) := if_pos h
theorem addL_if {xs ys : List D} (h : xs.length + ys.length ≤ sizeLine) : addV (.ok (.im (.lst xs))) (.ok (.fr ys)) = .ok (.fr (xs ++ ys)) := if_pos h
theorem addL_fi {xs ys : List D} (h : xs.length + ys.length ≤ sizeLine) : addV (.ok (.fr xs)) (.ok (.im (.lst ys))) = .ok (.fr (xs ++ ys)) := if_pos h
theorem addL_oi {xs ys : List D} (h : xs.length + ys.length ≤ sizeLine) : addV (.ok (.ro xs)) (.ok (.im (.lst ys))) = .ok (.fr (xs ++ ys)) := if_pos h
theorem addL_of {xs ys : List D} (h : xs.length + ys.length ≤ sizeLine) : addV (.ok (.ro xs)) (.ok (.fr ys)) = .ok (.fr (xs ++ ys)) := if_pos h
theorem addT_ok {xs ys : List D} (h : xs.length + ys.length ≤ sizeLine) : addV (.ok (.im (.tup xs))) (.ok (.im (.tup ys))) = .ok (.im (.tup (xs ++ ys))) := if_pos h
theorem addS_ok {x y : Str} (h : x.length + y.length ≤ sizeLine) : addV (.ok (.im (.str x))) (.ok (.im (.str y))) = .ok (.im (.str (x ++ y))) := if_pos h
theorem rng1_ok {n : Int} (h : -(2 ^ 62) ≤ n ∧ n < 2 ^ 62) : rng1 (.ok (.int n)) = .ok (rngD 0 n.toNat) := if_pos h
theorem rng2_ok {i j : Int} (h : -(2 ^ 62) ≤ i ∧ i < 2 ^ 62 ∧ -(2 ^ 62) ≤ j ∧ j < 2 ^ 62) : rng2 (.ok (.int i)) (.ok (.int j)) = .ok (rngD i (j - i).toNat) := if_pos h
theorem frz_ow {E : Fr} {i : Nat} {ds : List D} (h : nthS E i = .ow ds) : frz E i = setS E i (.im (.lst ds)) := by unfold frz; rw [h]
theorem forN_inv {α : Type} {enc : α → D} {g : D → R (List (Nat × D))} {f : Fr → O} (Iv : Nat → Fr → Prop) :
  ∀ (xs : List α) (n : Nat) (E : Fr), (∀ (i : Nat) (E : Fr) (x : α), xs[i]? = some x → Iv (n + i) E → ∃ ss, g (enc x) = .ok ss ∧ ∃ E', (f (setsF E ss) = .nx E' ∨ f (setsF E ss) = .ct E') ∧ Iv (n + i + 1) E') → Iv n E → ∃ E', forN g f (xs.map enc) E = .nx E' ∧ Iv (n + xs.length) E'
 | [], n, E, _, i => ⟨E, rfl, i⟩
 | x :: xs, n, E, h, i => by
  obtain ⟨ss, h1, E1, h2, h3⟩ := h 0 E x rfl i
  obtain ⟨E2, k1, k2⟩ := forN_inv Iv xs (n + 1) E1 (fun i E y hy iv => by
   have := h (i + 1) E y (by simpa using hy) (by rw [show n + (i + 1) = n + 1 + i by omega]; exact iv)
   rw [show n + 1 + i + 1 = n + (i + 1) + 1 by omega]
   exact this) h3
  refine ⟨E2, ?_, by rw [show n + (x :: xs).length = n + 1 + xs.length by rw [List.length_cons]; omega]; exact k2⟩
  rw [List.map_cons, forN, h1]
  rcases h2 with h2 | h2
  ·show nextO (f (setsF E ss)) _ = _
   rw [h2]
   exact k1
  ·show nextO (f (setsF E ss)) _ = _
   rw [h2]
   exact k1
theorem forN_rng {g : D → R (List (Nat × D))} {f : Fr → O} (Iv : Nat → Fr → Prop) (lo : Int) (n : Nat) (E : Fr) (h : ∀ (i : Nat) (E : Fr), i < n → Iv i E → ∃ ss, g (.int (lo + (i : Int))) = .ok ss ∧ ∃ E', (f (setsF E ss) = .nx E' ∨ f (setsF E ss) = .ct E') ∧ Iv (i + 1) E') (h0 : Iv 0 E) : ∃ E', forN g f (rngD lo n) E = .nx E' ∧ Iv n E' := by
 have k := forN_inv (enc := fun (i : Nat) => D.int (lo + (i : Int))) (g := g) (f := f) Iv (List.range n) 0 E (fun i E x hx iv => by
  have hi := (List.getElem?_eq_some_iff.mp hx).1
  rw [List.length_range] at hi
  rw [List.getElem?_range hi] at hx
  cases hx
  rw [Nat.zero_add] at iv ⊢
  exact h i E hi iv) h0
 rw [List.length_range, Nat.zero_add] at k
 exact k
theorem lcN_map {α : Type} {enc : α → D} {h : D → R (Option D)} {p : α → Bool} {v : α → D} : ∀ {xs : List α}, (∀ x ∈ xs, h (enc x) = .ok (if p x = true then some (v x) else none)) → lcN h (xs.map enc) = .ok ((xs.filter p).map v)
 | [], _ => rfl
 | x :: xs, hx => by
  have i := lcN_map (xs := xs) fun y hy => hx y (List.mem_cons_of_mem _ hy)
  rw [List.map_cons, lcN, i, hx x List.mem_cons_self]
  cases e : p x with
  | true => rw [List.filter_cons_of_pos e, if_pos rfl]; rfl
  | false => rw [List.filter_cons_of_neg (by rw [e]; decide), if_neg Bool.false_ne_true]; rfl
theorem lcN_all {α : Type} {enc : α → D} {h : D → R (Option D)} {v : α → D} {xs : List α} (hx : ∀ x ∈ xs, h (enc x) = .ok (some (v x))) : lcN h (xs.map enc) = .ok (xs.map v) := by
 have i := lcN_map (enc := enc) (h := h) (p := fun _ => true) (v := v) (xs := xs) fun x m => by rw [if_pos rfl]; exact hx x m
 rw [List.filter_eq_self.2 fun _ _ => rfl] at i
 exact i
theorem lcGo_le {h : D → R (Option D)} {ds : List D} (l : ds.length ≤ 100000) : lcGo (.ok ds) true h = lstR (lcN h ds) := by
 unfold lcGo
 dsimp only
 rw [if_pos ⟨rfl, by rw [sizeLine_eq]; omega⟩]
theorem appV_le {i : Nat} {ds : List D} {d : D} {E : Fr} (h : ds.length ≤ 100000) : appV i (.ow ds) (.ok d) E = .nx (setS E i (.ow (ds ++ [d]))) := appV_ok (by rw [sizeLine_eq]; omega)
theorem addL_le {xs ys : List D} (h : xs.length + ys.length ≤ 100000) : xs.length + ys.length ≤ sizeLine := by rw [sizeLine_eq]; omega
theorem ev_addl_ff {xs ys : List D} (h : xs.length + ys.length ≤ 100000) : addV (.ok (.fr xs)) (.ok (.fr ys)) = .ok (.fr (xs ++ ys)) := addL_ff (addL_le h)
theorem ev_addl_ii {xs ys : List D} (h : xs.length + ys.length ≤ 100000) : addV (.ok (.im (.lst xs))) (.ok (.im (.lst ys))) = .ok (.fr (xs ++ ys)) := addL_ii (addL_le h)
theorem ev_addl_if {xs ys : List D} (h : xs.length + ys.length ≤ 100000) : addV (.ok (.im (.lst xs))) (.ok (.fr ys)) = .ok (.fr (xs ++ ys)) := addL_if (addL_le h)
theorem ev_addl_fi {xs ys : List D} (h : xs.length + ys.length ≤ 100000) : addV (.ok (.fr xs)) (.ok (.im (.lst ys))) = .ok (.fr (xs ++ ys)) := addL_fi (addL_le h)
theorem ev_addl_oi {xs ys : List D} (h : xs.length + ys.length ≤ 100000) : addV (.ok (.ro xs)) (.ok (.im (.lst ys))) = .ok (.fr (xs ++ ys)) := addL_oi (addL_le h)
theorem ev_addl_of {xs ys : List D} (h : xs.length + ys.length ≤ 100000) : addV (.ok (.ro xs)) (.ok (.fr ys)) = .ok (.fr (xs ++ ys)) := addL_of (addL_le h)
theorem ev_addt {xs ys : List D} (h : xs.length + ys.length ≤ 100000) : addV (.ok (.im (.tup xs))) (.ok (.im (.tup ys))) = .ok (.im (.tup (xs ++ ys))) := addT_ok (addL_le h)
theorem app_ok {ds : List D} (l : ds.length ≤ 100000) : ds.length < sizeLine := by rw [sizeLine_eq]; omega
mutual
def D.sim : D → Bool
 | .at .non => true
 | .at (.int _) => true
 | .at (.str x) => PyData.strOk x
 | .at _ => false
 | .tup ds => D.sims ds
 | .lst ds => D.sims ds
 | .exc _ => false
 | .obj _ _ _ => false
 | .dct => false
 | .any => false
def D.sims : List D → Bool
 | [] => true
 | d :: ds => D.sim d && D.sims ds
end
mutual
theorem D.sim_ok : ∀ d : D, d.sim = true → d.pyOk = true
 | .at .non, _ => rfl
 | .at (.int _), _ => rfl
 | .at (.str x), h => h
 | .at (.bl _), h => by cases h
 | .at (.byt _), h => by cases h
 | .at (.flt _), h => by cases h
 | .at (.ref _), h => by cases h
 | .at (.ty _), h => by cases h
 | .tup ds, h => D.sims_ok ds h
 | .lst ds, h => D.sims_ok ds h
 | .exc _, h => by cases h
 | .obj _ _ _, h => by cases h
 | .dct, h => by cases h
 | .any, h => by cases h
theorem D.sims_ok : ∀ ds : List D, D.sims ds = true → D.pysOk ds = true
 | [], _ => rfl
 | d :: ds, h => by
  have h' : (D.sim d && D.sims ds) = true := h
  rw [Bool.and_eq_true] at h'
  show (D.pyOk d && D.pysOk ds) = true
  rw [D.sim_ok d h'.1, D.sims_ok ds h'.2]
  rfl
end
mutual
def D.deq : D → D → Bool
 | .at a, .at b => decide (a = b)
 | .tup a, .tup b => D.deqs a b
 | .lst a, .lst b => D.deqs a b
 | .exc a, .exc b => decide (a = b)
 | .obj c ns l, .obj c' ns' l' => (decide (c = c') && decide (ns = ns')) && D.deqs l l'
 | .dct, .dct => true
 | .any, .any => true
 | _, _ => false
def D.deqs : List D → List D → Bool
 | [], [] => true
 | a :: as, b :: bs => D.deq a b && D.deqs as bs
 | _, _ => false
end
mutual
theorem D.deq_iff : ∀ a b : D, D.deq a b = true ↔ a = b
 | .at a, .at b => by rw [D.deq, decide_eq_true_iff]; exact ⟨fun h => by rw [h], fun h => by cases h; rfl⟩
 | .tup a, .tup b => by rw [D.deq, D.deqs_iff a b]; exact ⟨fun h => by rw [h], fun h => by cases h; rfl⟩
 | .lst a, .lst b => by rw [D.deq, D.deqs_iff a b]; exact ⟨fun h => by rw [h], fun h => by cases h; rfl⟩
 | .exc a, .exc b => by rw [D.deq, decide_eq_true_iff]; exact ⟨fun h => by rw [h], fun h => by cases h; rfl⟩
 | .obj c ns l, .obj c' ns' l' => by rw [D.deq, Bool.and_eq_true, Bool.and_eq_true, D.deqs_iff l l', decide_eq_true_iff, decide_eq_true_iff]; simp [and_assoc]
 | .dct, .dct => by simp [D.deq]
 | .any, .any => by simp [D.deq]
 | .at _, .any => by simp [D.deq]
 | .any, .at _ => by simp [D.deq]
 | .tup _, .any => by simp [D.deq]
 | .any, .tup _ => by simp [D.deq]
 | .lst _, .any => by simp [D.deq]
 | .any, .lst _ => by simp [D.deq]
 | .exc _, .any => by simp [D.deq]
 | .any, .exc _ => by simp [D.deq]
 | .obj _ _ _, .any => by simp [D.deq]
 | .any, .obj _ _ _ => by simp [D.deq]
 | .dct, .any => by simp [D.deq]
 | .any, .dct => by simp [D.deq]
 | .at _, .obj _ _ _ => by simp [D.deq]
 | .at _, .dct => by simp [D.deq]
 | .tup _, .obj _ _ _ => by simp [D.deq]
 | .tup _, .dct => by simp [D.deq]
 | .lst _, .obj _ _ _ => by simp [D.deq]
 | .lst _, .dct => by simp [D.deq]
 | .exc _, .obj _ _ _ => by simp [D.deq]
 | .exc _, .dct => by simp [D.deq]
 | .obj _ _ _, .at _ => by simp [D.deq]
 | .obj _ _ _, .tup _ => by simp [D.deq]
 | .obj _ _ _, .lst _ => by simp [D.deq]
 | .obj _ _ _, .exc _ => by simp [D.deq]
 | .obj _ _ _, .dct => by simp [D.deq]
 | .dct, .at _ => by simp [D.deq]
 | .dct, .tup _ => by simp [D.deq]
 | .dct, .lst _ => by simp [D.deq]
 | .dct, .exc _ => by simp [D.deq]
 | .dct, .obj _ _ _ => by simp [D.deq]
 | .at _, .tup _ => by simp [D.deq]
 | .at _, .lst _ => by simp [D.deq]
 | .at _, .exc _ => by simp [D.deq]
 | .tup _, .at _ => by simp [D.deq]
 | .tup _, .lst _ => by simp [D.deq]
 | .tup _, .exc _ => by simp [D.deq]
 | .lst _, .at _ => by simp [D.deq]
 | .lst _, .tup _ => by simp [D.deq]
 | .lst _, .exc _ => by simp [D.deq]
 | .exc _, .at _ => by simp [D.deq]
 | .exc _, .tup _ => by simp [D.deq]
 | .exc _, .lst _ => by simp [D.deq]
theorem D.deqs_iff : ∀ a b : List D, D.deqs a b = true ↔ a = b
 | [], [] => by simp [D.deqs]
 | [], _ :: _ => by simp [D.deqs]
 | _ :: _, [] => by simp [D.deqs]
 | a :: as, b :: bs => by rw [D.deqs, Bool.and_eq_true, D.deq_iff a b, D.deqs_iff as bs]; simp
end
instance : DecidableEq D := fun a b => if h : D.deq a b = true then isTrue ((D.deq_iff a b).mp h) else isFalse fun e => h ((D.deq_iff a b).mpr e)
mutual
theorem D.eqb_sim : ∀ a b : D, a.sim = true → b.sim = true → D.eqb a b = D.deq a b
 | .at a, .at b, ha, hb => by
  unfold D.eqb
  cases a <;> cases b <;> first | (cases ha; done) | (cases hb; done) | (simp [D.py, PyData.eqv, D.deq, Bool.beq_eq_decide_eq])
 | .tup a, .tup b, ha, hb => by
  unfold D.eqb
  rw [D.py, D.py, PyData.eqv, D.deq]
  exact D.eqbs_sim a b ha hb
 | .lst a, .lst b, ha, hb => by
  unfold D.eqb
  rw [D.py, D.py, PyData.eqv, D.deq]
  exact D.eqbs_sim a b ha hb
 | .exc _, _, ha, _ => by cases ha
 | _, .exc _, _, hb => by cases hb
 | .obj _ _ _, _, ha, _ => by cases ha
 | _, .obj _ _ _, _, hb => by cases hb
 | .dct, _, ha, _ => by cases ha
 | .any, _, ha, _ => by cases ha
 | _, .dct, _, hb => by cases hb
 | _, .any, _, hb => by cases hb
 | .at a, .tup b, ha, hb => by unfold D.eqb; cases a <;> first | (cases ha; done) | (simp [D.py, PyData.eqv, D.deq])
 | .at a, .lst b, ha, hb => by unfold D.eqb; cases a <;> first | (cases ha; done) | (simp [D.py, PyData.eqv, D.deq])
 | .tup a, .at b, ha, hb => by unfold D.eqb; cases b <;> first | (cases hb; done) | (simp [D.py, PyData.eqv, D.deq])
 | .lst a, .at b, ha, hb => by unfold D.eqb; cases b <;> first | (cases hb; done) | (simp [D.py, PyData.eqv, D.deq])
 | .tup a, .lst b, ha, hb => by unfold D.eqb; simp [D.py, PyData.eqv, D.deq]
 | .lst a, .tup b, ha, hb => by unfold D.eqb; simp [D.py, PyData.eqv, D.deq]
theorem D.eqbs_sim : ∀ a b : List D, D.sims a = true → D.sims b = true → PyData.eqvAll (D.pys a) (D.pys b) = D.deqs a b
 | [], [], _, _ => by simp [D.pys, PyData.eqvAll, D.deqs]
 | [], _ :: _, _, _ => by simp [D.pys, PyData.eqvAll, D.deqs]
 | _ :: _, [], _, _ => by simp [D.pys, PyData.eqvAll, D.deqs]
 | a :: as, b :: bs, ha, hb => by
  have ha' : (D.sim a && D.sims as) = true := ha
  have hb' : (D.sim b && D.sims bs) = true := hb
  rw [Bool.and_eq_true] at ha' hb'
  rw [D.pys, D.pys, PyData.eqvAll, D.deqs, D.eqbs_sim as bs ha'.2 hb'.2]
  have e : PyData.eqv a.py b.py = D.deq a b := D.eqb_sim a b ha'.1 hb'.1
  rw [e]
end
theorem D.eqb_dec {a b : D} (ha : a.sim = true) (hb : b.sim = true) : D.eqb a b = decide (a = b) := by
 rw [D.eqb_sim a b ha hb]
 by_cases h : a = b
 ·rw [decide_eq_true h, (D.deq_iff a b).mpr h]
 ·rw [decide_eq_false h]
  cases e : D.deq a b with
  | false => rfl
  | true => exact absurd ((D.deq_iff a b).mp e) h
theorem goodB_sim {d : D} (h : d.sim = true) (k : d.dep ≤ 64) : goodB d = true := goodB_iff.mpr ⟨D.sim_ok d h, k⟩
theorem eqD_sim {a b : D} (ha : a.sim = true) (hb : b.sim = true) (ka : a.dep ≤ 64) (kb : b.dep ≤ 64) : eqD a b = .ok (decide (a = b)) := by
 have go : (if goodB a = true ∧ goodB b = true then R.ok (D.eqb a b) else .bad) = .ok (decide (a = b)) := by rw [if_pos ⟨goodB_sim ha ka, goodB_sim hb kb⟩, D.eqb_dec ha hb]
 unfold eqD
 split
 ·congr 1; simp
 ·cases ha
 ·congr 1
  rename_i x y
  rw [Bool.beq_eq_decide_eq]
  by_cases h : x = y
  ·subst h; simp
  ·simp [h]
 ·exact go
theorem inR_ints (i : Int) (ns : List Int) : inR (.ok (.int i)) (.ok (D.ints ns)) = .ok (decide (i ∈ ns)) := by
 show (if goodB (.int i) = true ∧ goodB (.lst (D.ints ns)) = true then R.ok ((D.ints ns).any fun z => D.eqb z (.int i)) else .bad) = _
 rw [if_pos ⟨goodB_iff.mpr (good_int i), goodB_iff.mpr (good_ints ns)⟩, any_ints]
theorem retN_at (v : V) : retN (.ok (.im (.at v))) = .ok (.im (.at v)) := rfl
theorem sims_map {α : Type} {f : α → D} (h : ∀ x, (f x).sim = true) : ∀ l : List α, D.sims (l.map f) = true
 | [] => rfl
 | x :: l => by
  show (D.sim (f x) && D.sims (l.map f)) = true
  rw [h x, sims_map h l]
  rfl
theorem deps_map {α : Type} {f : α → D} {n : Nat} (h : ∀ x, (f x).dep ≤ n) : ∀ l : List α, D.deps (l.map f) ≤ n
 | [] => Nat.zero_le _
 | x :: l => Nat.max_le.mpr ⟨h x, deps_map h l⟩
theorem eqD_lists {α : Type} {f : α → D} (h : ∀ x, (f x).sim = true) (k : ∀ x, (f x).dep ≤ 60) (inj : ∀ x y, f x = f y → x = y) (l m : List α) [Decidable (l = m)] : eqD (.lst (l.map f)) (.lst (m.map f)) = .ok (decide (l = m)) := by
 rw [eqD_sim (a := .lst (l.map f)) (b := .lst (m.map f)) (sims_map h l) (sims_map h m) (by have := deps_map k l; show D.deps _ + 1 ≤ 64; omega) (by have := deps_map k m; show D.deps _ + 1 ≤ 64; omega)]
 congr 1
 apply decide_eq_decide.mpr
 constructor
 ·intro e
  exact List.map_inj_right (fun x y z => inj x y z) |>.mp (D.lst.inj e)
 ·intro e
  rw [e]
theorem q4_sim (q : P4) : (q4 q).sim = true := rfl
theorem t3_sim (q : P3) : (t3 q).sim = true := rfl
theorem q4_inj (q r : P4) (h : q4 q = q4 r) : q = r := by
 obtain ⟨a, b, c, d⟩ := q
 obtain ⟨a', b', c', d'⟩ := r
 unfold q4 at h
 simpa using h
theorem t3_inj (q r : P3) (h : t3 q = t3 r) : q = r := by
 obtain ⟨a, b, c⟩ := q
 obtain ⟨a', b', c'⟩ := r
 unfold t3 at h
 simpa using h
theorem eqD_quads (l m : List P4) : eqD (.lst (D.quads l)) (.lst (D.quads m)) = .ok (decide (l = m)) := eqD_lists q4_sim (fun q => by show 1 ≤ 60; decide) q4_inj l m
theorem eqD_t3s (l m : List P3) : eqD (.lst (l.map t3)) (.lst (m.map t3)) = .ok (decide (l = m)) := eqD_lists t3_sim (fun q => by show 1 ≤ 60; decide) t3_inj l m
theorem eqD_ints (l m : List Int) : eqD (.lst (D.ints l)) (.lst (D.ints m)) = .ok (decide (l = m)) := eqD_lists (f := D.int) (fun _ => rfl) (fun q => by show 0 ≤ 60; decide) (fun x y h => by simpa using h) l m
theorem eqD_t3 (p q : P3) : eqD (t3 p) (t3 q) = .ok (decide (p = q)) := by
 rw [eqD_sim (t3_sim p) (t3_sim q) (by show 1 ≤ 64; decide) (by show 1 ≤ 64; decide)]
 congr 1
 exact decide_eq_decide.mpr ⟨t3_inj p q, fun e => by rw [e]⟩
theorem eqD_q4 (p q : P4) : eqD (q4 p) (q4 q) = .ok (decide (p = q)) := by
 rw [eqD_sim (q4_sim p) (q4_sim q) (by show 1 ≤ 64; decide) (by show 1 ≤ 64; decide)]
 congr 1
 exact decide_eq_decide.mpr ⟨q4_inj p q, fun e => by rw [e]⟩
theorem sWhile_run {t : Fr → R Bool} {f : Fr → O} (Iv Fin : Fr → Prop) (μ : Fr → Nat) (h : ∀ E, Iv E → (t E = .ok true ∧ ∃ E', (f E = .nx E' ∨ f E = .ct E') ∧ Iv E' ∧ μ E' < μ E) ∨ (t E = .ok false ∧ Fin E)) {E : Fr} (h0 : Iv E) : ∃ E', sWhile t f E = .nx E' ∧ Fin E' := by
 have go : ∀ (n : Nat) (E : Fr), μ E < n → Iv E → ∃ m E', whileN t f m E = .nx E' ∧ Fin E' := by
  intro n
  induction n with
  | zero => intro E hl; omega
  | succ n ih =>
   intro E hl iv
   rcases h E iv with ⟨h1, E1, h2, h3, h4⟩ | ⟨h1, h2⟩
   ·obtain ⟨m, E2, k1, k2⟩ := ih E1 (by omega) h3
    refine ⟨m + 1, E2, ?_, k2⟩
    rw [whileN_succ, h1]
    rcases h2 with h2 | h2 <;> rw [h2] <;> exact k1
   ·exact ⟨1, E, by rw [whileN_succ, h1]; rfl, h2⟩
 obtain ⟨m, E', k1, k2⟩ := go (μ E + 1) E (by omega) h0
 exact ⟨E', sWhile_eq k1 (by intro z; cases z), k2⟩
def IsSq (d : D) (ds : List D) : Prop := d = .tup ds ∨ d = .lst ds
theorem it_seq {d : D} {ds : List D} (h : IsSq d ds) : itR (.ok (.im d)) = .ok ds := by rcases h with h | h <;> rw [h] <;> rfl
end DL
namespace L2
open PySem PySem.Spec PyProof.Rows
theorem walk_ofL {l : PySem.W.OpenLaw} {n k : Nat} {q : Program} {lo : List Str}
  {XP : (Str → Option Value) → Heap → Prop} {YP : World → Heap → Prop} {d : DefRec}
  {K : Params → PySem.W.Frag} {CX : World → CXT} {sp : World → Sp} {x : Str} (hn : l.most = some n)
  (hn2 : n ≤ sizeLine) (hdf : d.params.defaults = []) (hr : Room k callerA) (hY : ∀ (w : World) (h : Heap), YP w h → (K w.params).In h)
  (F : ∀ (w : World) (mg : Str → Option Value) (fa : Addr) (h : Heap), (K w.params).In h → h.Ns mainGlobals mg → XP mg h → (∀ x e, valOf q x = some e → ∃ v, mg x = some v ∧ ∀ h' : Heap, Reads h' v e []) → mg d.name = some (.ref fa) →
   ∃ fd : FuncData, (∀ (s : Shared) (u : Value), BindsTo s fd ⟨[u], []⟩ [(x, u)]) ∧ ∀ base : Heap, (K w.params).In base → base.Ns mainGlobals mg → FnOk l.prog w (K w.params) mg base (CX w) k fa fd [x] (sp w))
  (hsp : ∀ (w : World) (H : Hp) (a : Addr) (ns : List Int), ns.length ≤ n → (∀ z ∈ ns, Builtin.Int.intBits z ≤ 1048576) → Only H →
   SqL (K w.params) H a (ns.map V.int) → sp w [.ref a] H (fun v _ => v = .bl true) fun _ _ _ => False)
  (hCX : ∀ (w : World) (H : Hp) (s : Shared) (e : Value) (s' : Shared), CX w [] H s (fun _ _ _ => False) e s' → False) : PySem.W.WalkO q lo XP YP l.row.toRowW d [] (fun f vs => PySem.call f vs) :=
 Att.attach_callB hn hdf fun w s0 s1 mg mb fa o pm cd doc a vs ns G Y ho hd hcd hmg hobj hints hlen hbits hg =>
  have KX := hY w _ Y
  let ⟨fd, hb, hF⟩ := F w mg fa _ KX G.T.g G.X G.T.const hmg
  law_call KX G.T.g G.T.b G.T.builtins G.T.nolimit hg hobj hints (Nat.le_trans hlen hn2) hr hF hb (fun H hO hS => hsp w H a ns hlen hbits hO hS) fun H e s' => hCX w H s1 e s'
end L2
namespace DL
open PySem PySem.Spec PyProof.Rows L2
theorem gint_of {p : Program} {lv : List (Str × PySem.W.WData)} {mg : Str → Option Value} {h : Heap} (X : PySem.W.XL p lv mg h) {x : Str} {i : Int} (m : (x, PySem.W.WData.int i) ∈ lv) : ∃ t, mg x = some (.int i t) := by
 obtain ⟨v, a, b⟩ := X.2.val _ m
 obtain ⟨t, rfl, -⟩ := PySem.W.readsW_int_inv b
 exact ⟨t, a⟩
theorem gcon_of {mg : Str → Option Value} {x : Str} {i : Int} (c : ∃ v, mg x = some v ∧ ∀ h' : Heap, Reads h' v (.int i) []) : ∃ t, mg x = some (.int i t) := by
 obtain ⟨v, a, b⟩ := c
 cases b default
 exact ⟨_, a⟩
theorem scon_of {mg : Str → Option Value} {x : Str} {i : Str} (c : ∃ v, mg x = some v ∧ ∀ h' : Heap, Reads h' v (.str i) []) : ∃ t, mg x = some (.str i t) := by
 obtain ⟨v, a, b⟩ := c
 cases b default
 exact ⟨_, a⟩
end DL
namespace DL
open PySem PySem.Spec PyProof.Rows L2
end DL
namespace DL
open PySem PySem.Spec PyProof.Rows L2
theorem Ik.lt {t : Bool} {g : Heap} {i a : Addr} {k : Nat} (h : Ik t g i a k) : i < g.objs.size := by
 obtain ⟨_, e, _⟩ := h.obj
 exact Heap.lt_size e
section
variable {X : Cx} {C : Ctx} {ρ : Rho} {e a b c tg : Expr} {ma mb mc : MX} {ds es' fs' : List D} {pos p tpos : Pos} {elts : List Expr} {kk : Nat}
def zip3D (xs ys zs : List D) : List D := List.zipWith (fun x (yz : D × D) => D.tup [x, yz.1, yz.2]) xs (ys.zip zs)
def zip3R : R D → R D → R D → R (List D)
 | .ok (.lst xs), .ok (.lst ys), .ok (.lst zs) => .ok (zip3D xs ys zs)
 | _, _, _ => .bad
def iZip3A (ma mb mc : MX) : Fr → R (List D) := fun E => zip3R (toD (ma E)) (toD (mb E)) (toD (mc E))
theorem ev_zip3 {E : Fr} : iZip3A ma mb mc E = zip3R (toD (ma E)) (toD (mb E)) (toD (mc E)) := rfl
theorem ev_zip3_l {xs ys zs : List D} : zip3R (.ok (.lst xs)) (.ok (.lst ys)) (.ok (.lst zs)) = .ok (zip3D xs ys zs) := rfl
end
end DL
namespace DL
open PySem PySem.Spec PyProof.Rows L2
inductive Kr where
 | go (ss : List (Nat × D))
 | ct (ss : List (Nat × D))
 | rt (r : Ret)
 | bad
section
variable {X : Cx} {C : Ctx} {ρ : Rho} {e c tg iter : Expr} {st : Stmt} {sts ts us body : List Stmt} {pos p : Pos}
def Kr.pre (ss : List (Nat × D)) : Kr → Kr
 | .go ss' => .go (ss ++ ss')
 | .ct ss' => .ct (ss ++ ss')
 | o => o
def Kr.then (E : Fr) (g : Fr → Kr) : Kr → Kr
 | .go ss => (g (setsF E ss)).pre ss
 | o => o
end
end DL
set_option maxHeartbeats 4000000
namespace DL
open PySem PySem.Spec PyProof.Rows L2
end DL
namespace DL
open PySem PySem.Spec PyProof.Rows L2
section
variable {X : Cx} {C : Ctx} {ρ : Rho} {a b : Expr} {ds : List D} {ma mb : MX} {pos : Pos}
theorem reps_rep {K : PySem.W.Frag} {H : Hp} {vs : List V} {ds : List D} (r : Reps K H vs ds) : ∀ n : Nat, Reps K H (List.replicate n vs).flatten (List.replicate n ds).flatten
 | 0 => .nil
 | n + 1 => by
  rw [List.replicate_succ, List.replicate_succ, List.flatten_cons, List.flatten_cons]
  exact r.append (reps_rep r n)
theorem ef_rep {k : Int} (ha : EF X C ρ a ds) (hb : EE X C ρ b (.int k)) (h1 : -(2 ^ 63) ≤ k) (h2 : k < 2 ^ 63) (hz : ds.length * k.toNat ≤ sizeLine) : EF X C ρ (.BinOp a .Mult b pos) (List.replicate k.toNat ds).flatten := fun σ H S Q q =>
 wpE_of (pe_op op_rep pe_wp pe_wp) (ha σ H S _ fun l xs H1 n1 s1 l1 r1 => hb σ H1 (S.same s1) _ fun v H2 s2 r2 => by
  cases r2
  refine ⟨l, k, xs, rfl, rfl, s2 _ _ l1, h1, h2, by rw [r1.length]; exact hz, fun z nz => ?_⟩
  have sub : Same (vis C (l :: ows ρ) H1) (vis C (ows ρ) H2) := (vis_sub fun b hb => List.mem_cons_of_mem _ hb).trans (vis_same s2)
  exact q z _ _ ((s1.trans s2).free nz) ((s1.trans s2).trans (same_upd nz)) upd_same (reps_fresh ((S.same s1).same s2) nz (reps_rep (Reps.mono sub _ r1) _)))
def repR : R RV → R D → R RV
 | .ok (.fr ds), .ok (.at (.int k)) => if -(2 ^ 63) ≤ k ∧ k < 2 ^ 63 ∧ ds.length * k.toNat ≤ sizeLine then .ok (.fr (List.replicate k.toNat ds).flatten) else .bad
 | _, _ => .bad
def eRep (ma mb : MX) : MX := fun E => repR (ma E) (toD (mb E))
theorem em_rep (ha : EM X a ma) (hb : EM X b mb) : EM X (.BinOp a .Mult b pos) (eRep ma mb) := .mk fun C ρ => by
 unfold eRep
 have ha' := ha C ρ
 revert ha'
 generalize ma (frOf ρ) = r
 intro ha'
 unfold repR
 split
 ·rename_i ds k q
  split
  ·rename_i z
   exact ef_rep ha' (hb.ee q) z.1 z.2.1 z.2.2
  ·trivial
 ·trivial
end
end DL
set_option maxHeartbeats 4000000
namespace DL
open PySem PySem.Spec PyProof.Rows L2
end DL
set_option maxHeartbeats 4000000
namespace DL
open PySem PySem.Spec PyProof.Rows L2
def pl (p : Int × Int) : List Int := [p.1, p.2]
end DL
namespace DL
open PySem PySem.Spec PyProof.Rows L2
def noList (p : Addr × Obj) : Bool := match p.2.cls with
 | .type n => !(n == "list")
 | _ => true
def NoLists (K : PySem.W.Frag) : Prop := ∀ a o, K.lookup a = some o → o.cls ≠ .type "list"
theorem noLists_of : ∀ {K : PySem.W.Frag}, K.all noList = true → NoLists K
 | [], _, a, o, e => by cases e
 | p :: K, h, a, o, e => by
  rw [List.all_cons, Bool.and_eq_true] at h
  rw [List.lookup_cons] at e
  split at e
  ·cases e
   intro z
   have h1 := h.1
   unfold noList at h1
   rw [z] at h1
   exact absurd h1 (by decide)
  ·exact noLists_of h.2 a o e
theorem sq_rd {K : PySem.W.Frag} {H : Hp} {a : Addr} {xs : List V} (n : NoLists K) (h : SqL K H a xs) : Rd H a (.lst xs) := by
 rcases h with h | ⟨o, its, k, l, c, _⟩
 ·exact h
 ·exact absurd c (n a o l)
mutual
def D.nr : D → Bool
 | .at v => atV v
 | .tup l => D.nrs l
 | .lst l => D.nrs l
 | .exc _ => false
 | .obj _ _ _ => false
 | .dct => false
 | .any => false
def D.nrs : List D → Bool
 | [] => true
 | d :: ds => D.nr d && D.nrs ds
end
mutual
def D.subs : D → List D
 | .at _ => []
 | .tup l => D.subss l
 | .lst l => .lst l :: D.subss l
 | .exc _ => []
 | .obj _ _ l => D.subss l
 | .dct => []
 | .any => []
def D.subss : List D → List D
 | [] => []
 | d :: ds => D.subs d ++ D.subss ds
end
section
variable {K : PySem.W.Frag} {W H : Hp}
theorem paired_append {α β : Type} {F : α → β → Prop} : ∀ {l1 : List α} {m1 : List β} {l2 : List α} {m2 : List β}, Paired F l1 m1 → Paired F l2 m2 → Paired F (l1 ++ l2) (m1 ++ m2)
 | _, _, _, _, .nil, q => q
 | _, _, _, _, .cons r t, q => .cons r (paired_append t q)
theorem noL_subs : (∀ d : D, d.noL = true → d.subs = []) := by
 intro d
 exact D.rec (motive_1 := fun d => d.noL = true → d.subs = []) (motive_2 := fun ds => D.noLs ds = true → D.subss ds = [])
  (fun v _ => rfl) (fun l ih h => ih h) (fun l ih h => by cases h) (fun _ _ => rfl) (fun _ _ _ _ h => by cases h) (fun _ => rfl) (fun _ => rfl)
  (fun _ => rfl) (fun d ds i1 i2 h => by
   have g := (Bool.and_eq_true _ _).mp h
   show d.subs ++ D.subss ds = []
   rw [i1 g.1, i2 g.2]; rfl) d
mutual
theorem RepT.al (sW : Same W H) : ∀ (d : D) {v : V} {as : List Addr}, RepT K W H v d as → d.nr = true → Paired (fun a x => Rep K H (.ref a) x ∧ x.nr = true) as d.subs
 | d, _, _, .leaf r n, h => by rw [noL_subs d n]; exact .nil
 | .lst ds, _, _, .lst s r, h => .cons ⟨.lst (.inl (.inl s)) (RepTs.rep sW ds (fun _ _ => rfl) r), h⟩ (RepTs.al sW ds r h)
 | .tup ds, _, _, .tup s r, h => RepTs.al sW ds r h
theorem RepTs.al (sW : Same W H) : ∀ (ds : List D) {vs : List V} {as : List Addr}, RepTs K W H vs ds as → D.nrs ds = true → Paired (fun a x => Rep K H (.ref a) x ∧ x.nr = true) as (D.subss ds)
 | [], _, _, .nil, h => .nil
 | d :: ds, _, _, .cons r t, h => paired_append (RepT.al sW d r ((Bool.and_eq_true _ _).mp h).1) (RepTs.al sW ds t ((Bool.and_eq_true _ _).mp h).2)
end
end
end DL
set_option maxHeartbeats 4000000
namespace DL
open PySem PySem.Spec PyProof.Rows L2
section
variable {K : PySem.W.Frag} {W W' H H' : Hp}
theorem RepTs.length : ∀ {vs : List V} {ds : List D} {as : List Addr}, RepTs K W H vs ds as → vs.length = ds.length
 | _, _, _, .nil => rfl
 | _, _, _, .cons _ t => congrArg (· + 1) (RepTs.length t)
end
section
variable {X : Cx} {C : Ctx} {ρ ρ' : Rho} {e b : Expr} {es : List Expr} {m mk mj : MX} {pos p : Pos} {P : Post}
theorem Same.ot {K : PySem.W.Frag} {H H1 : Hp} {σ : L2.St} (S : SRel K C H σ ρ) {i : Nat} {as : List Addr} {d : D} (h : ρ[i]? = some (.ot as d)) (s : Same H H1) : ∀ a ∈ as, H1 a = H a := fun a ha => by
 obtain ⟨v, _, r⟩ := S.ot i as d h
 obtain ⟨xs, q⟩ := RepT.isl _ r a ha
 rw [q]
 exact s _ _ q
end
end DL
set_option maxHeartbeats 4000000
namespace DL
open PySem PySem.Spec PyProof.Rows L2
end DL
set_option maxHeartbeats 4000000
namespace DL
open PySem PySem.Spec PyProof.Rows L2
section
variable {X : Cx} {C : Ctx} {ρ : Rho} {e a b c tg iter elt : Expr} {es : List Expr} {m ma mb mc : MX} {d : D} {ds : List D} {pos p spos py apos : Pos}
theorem ee_gstr {x : Str} {i : Str} (hm : ∃ t, X.mg x = some (.str i t)) (hg : Gl X x := by rfl) (hd : (x == ("__debug__" : Str)) = false := by decide) : EE X C ρ (.Name x pos) (.str i) := by
 obtain ⟨t, h⟩ := hm
 exact ee_c (pe_glob hg h ⟨t, rfl⟩ hd)
theorem em_gstr {x : Str} {i : Str} (hm : ∃ t, X.mg x = some (.str i t)) (hg : Gl X x := by rfl) (hd : (x == ("__debug__" : Str)) = false := by decide) : EM X (.Name x pos) (eC (.str i)) := em_c fun _ _ => ee_gstr hm hg hd
def strcR : R D → R RV
 | .ok (.at (.int i)) => if i.natAbs.log2 < 1920 then .ok (.im (.str (Str.ofString (toString i)))) else .bad
 | _ => .bad
def eStr (m : MX) : MX := fun E => strcR (toD (m E))
theorem em_strc (hm : X.mg "str" = none) (ha : EM X e m) (hg : Gl X "str" := by rfl) (he : starEach [e] X.env = (false, eval e X.env) :: starEach [] X.env := by exact se_of rfl) : EM X (.Call (.Name "str" p) [e] [] pos) (eStr m) := .mk fun C ρ => by
 unfold eStr strcR
 split
 ·rename_i i q
  split
  ·exact ee_strI hm (ha.ee q) (by assumption) hg he
  ·trivial
 ·trivial
def str2 (f : Str → Str → R RV) : D → D → R RV
 | .at (.str x), .at (.str y) => f x y
 | _, _ => .bad
def swR (x y : Str) : R RV := .ok (.im (.bl (Txt.startswith x y)))
def findR (x y : Str) : R RV := .ok (.im (.int (Txt.find x y)))
def indexR (x y : Str) : R RV := match Builtin.Str.occurrences x y 0 x.length 1 with
 | i :: _ => .ok (.im (.int (i : Nat)))
 | [] => .bad
def partR (x y : Str) : R RV := if (y.length == 0) = false ∧ x.length ≤ sizeLine then .ok (.im (.tup [.str (Txt.partition x y).1, .str (Txt.partition x y).2.1, .str (Txt.partition x y).2.2])) else .bad
abbrev eStartswith := e2 (str2 swR)
abbrev eIndex := e2 (str2 indexR)
abbrev ePartition := e2 (str2 partR)
theorem em_str2 {f : Str → Str → R RV} (ha : EM X a ma) (hb : EM X b mb) (h : ∀ C ρ x y, EE X C ρ a (.str x) → EE X C ρ b (.str y) → OKV X C ρ e (f x y)) : EM X e (e2 (str2 f) ma mb) := em_e2 ha hb fun C ρ x y h1 h2 => by
 unfold str2
 split
 ·exact h C ρ _ _ h1 h2
 ·trivial
theorem em_startswith (ha : EM X a ma) (hb : EM X b mb) (hs : starEach [b] X.env = [(false, eval b X.env)] := by exact se_of rfl) (hbase : attributeBase a "startswith" X.env (eval a X.env) = eval a X.env := by rfl) (hline : (apos.endLine == pos.line) = true := by rfl) : EM X (.Call (.Attribute a "startswith" apos) [b] [] pos) (eStartswith ma mb) := em_str2 ha hb fun C ρ x y h1 h2 => ee_startswith h1 h2 hs hbase hline
theorem em_index (ha : EM X a ma) (hb : EM X b mb) (hs : starEach [b] X.env = [(false, eval b X.env)] := by exact se_of rfl) (hbase : attributeBase a "index" X.env (eval a X.env) = eval a X.env := by rfl) (hline : (apos.endLine == pos.line) = true := by rfl) : EM X (.Call (.Attribute a "index" apos) [b] [] pos) (eIndex ma mb) := em_str2 ha hb fun C ρ x y h1 h2 => by
 unfold indexR
 split
 ·exact ee_index h1 h2 (by assumption) hs hbase hline
 ·trivial
theorem em_partition (ha : EM X a ma) (hb : EM X b mb) (hs : starEach [b] X.env = [(false, eval b X.env)] := by exact se_of rfl) (hbase : attributeBase a "partition" X.env (eval a X.env) = eval a X.env := by rfl) (hline : (apos.endLine == pos.line) = true := by rfl) : EM X (.Call (.Attribute a "partition" apos) [b] [] pos) (ePartition ma mb) := em_str2 ha hb fun C ρ x y h1 h2 => by
 unfold partR
 split
 ·rename_i z
  exact ee_partition h1 h2 z.1 z.2 hs hbase hline
 ·trivial
def inSR : R D → R D → R Bool
 | .ok (.at (.str x)), .ok (.at (.str z)) => (match x.cps.toList with
  | [c] => .ok (decide (c ∈ z.cps.toList))
  | _ => .bad)
 | _, _ => .bad
def cInS (ma mb : MX) : Fr → R Bool := fun E => inSR (toD (ma E)) (toD (mb E))
def cNotInS (ma mb : MX) : Fr → R Bool := fun E => notR (inSR (toD (ma E)) (toD (mb E)))
theorem one_sign {x : Str} {c : Nat} (h : x.cps.toList = [c]) : x = ⟨#[c]⟩ := by
 cases x with
 | mk cps =>
  have : cps = #[c] := by
   apply Array.ext'
   exact h
  rw [this]
theorem inSR_ok (ha : EM X a ma) (hb : EM X b mb) {k : Bool} (q : inSR (toD (ma (frOf ρ))) (toD (mb (frOf ρ))) = .ok k) : EC X C ρ .In a b (.bl k) ∧ EC X C ρ .NotIn a b (.bl (!k)) := by
 unfold inSR at q
 split at q
 ·rename_i x z q1 q2
  split at q
  ·rename_i ch q3
   cases q
   have h1 := ha.ee (C := C) q1
   rw [one_sign q3] at h1
   exact ec_inS h1 (hb.ee q2)
  ·cases q
 ·cases q
theorem cm_ninS (hu : X.A.units + 65 < cLine) (ha : EM X a ma) (hb : EM X b mb) : CM X .NotIn a b (cNotInS ma mb) := .mk fun C ρ k q => by
 obtain ⟨k', q', rfl⟩ := notR_ok q
 exact (inSR_ok ha hb q').2
end
section
variable {E : Fr} {ma mb m : MX} {x y z : Str} {i : Int} {lo hi : Option Int}
theorem ev_ixs : ixR (.ok (.im (.at (.str z)))) (.ok (.int i)) = chR z i := rfl
theorem ev_sls (h : z.length ≤ 100000) : slR (.ok (.im (.at (.str z)))) (.ok lo) (.ok hi) = .ok (.im (.str (cutS z lo hi))) := if_pos (by rw [sizeLine_eq]; omega)
theorem ev_lens (h : z.length ≤ 100000) : lenR (.ok (.im (.at (.str z)))) = .ok (.im (.int z.length)) := if_pos (by rw [sizeLine_eq]; omega)
theorem ev_its : itR (.ok (.im (.at (.str z)))) = .ok (signsD z) := rfl
theorem ev_str : eStr m E = strcR (toD (m E)) := rfl
theorem ev_strc (h : i.natAbs.log2 < 1920) : strcR (.ok (.at (.int i))) = .ok (.im (.at (.str (Str.ofString (toString i))))) := if_pos h
theorem ev_str2 {f : Str → Str → R RV} : str2 f (.at (.str x)) (.at (.str y)) = f x y := rfl
theorem ev_sw : swR x y = .ok (.im (.at (.bl (Txt.startswith x y)))) := rfl
theorem ev_findr : findR x y = .ok (.im (.at (.int (Txt.find x y)))) := rfl
theorem ev_part (h : (y.length == 0) = false) (k : x.length ≤ 100000) : partR x y = .ok (.im (.tup [.str (Txt.partition x y).1, .str (Txt.partition x y).2.1, .str (Txt.partition x y).2.2])) := if_pos ⟨h, by rw [sizeLine_eq]; omega⟩
theorem ev_ins : cInS ma mb E = inSR (toD (ma E)) (toD (mb E)) := rfl
theorem ev_nins : cNotInS ma mb E = notR (inSR (toD (ma E)) (toD (mb E))) := rfl
end
end DL
set_option maxHeartbeats 4000000
namespace DL
open PySem PySem.Spec PyProof.Rows L2
def EXA (X : Cx) (C : Ctx) (ρ : Rho) (es : List Expr) (n : Str) : Prop :=
 ∀ σ H, SRel X.K C H σ ρ → ∀ W : WX, Takes X W → (∀ c H', clsOf X.K n = some c → Same H H' → W (.ref c) none σ H') → ∀ Q, wpA X es σ H Q
def ETX (X : Cx) (C : Ctx) (ρ : Rho) (e : Expr) (n : Str) : Prop :=
 ∀ σ H, SRel X.K C H σ ρ → ∀ W : WX, Takes X W → (∀ c H', clsOf X.K n = some c → Same H H' → W (.ref c) none σ H') → ∀ Q, wpT X e σ H Q
def EWX (X : Cx) (C : Ctx) (ρ : Rho) (e : Expr) (n : Str) : Prop :=
 ∀ σ H, SRel X.K C H σ ρ → ∀ W : WX, Takes X W → (∀ c H', clsOf X.K n = some c → Same H H' → W (.ref c) none σ H') → ∀ Q, wpW X e σ H Q
structure RE (X : Cx) (e : Expr) (r : Fr → Option Str) : Prop where
 run : ∀ C ρ n, r (frOf ρ) = some n → EX X C ρ e n
structure RA (X : Cx) (es : List Expr) (r : Fr → Option Str) : Prop where
 run : ∀ C ρ n, r (frOf ρ) = some n → EXA X C ρ es n
structure RT (X : Cx) (e : Expr) (r : Fr → Option Str) : Prop where
 run : ∀ C ρ n, r (frOf ρ) = some n → ETX X C ρ e n
structure RW (X : Cx) (e : Expr) (r : Fr → Option Str) : Prop where
 run : ∀ C ρ n, r (frOf ρ) = some n → EWX X C ρ e n
section
variable {X : Cx} {C : Ctx} {ρ : Rho} {e a b c : Expr} {es rest : List Expr} {m ma mb : MX} {pos p : Pos} {r r1 r2 : Fr → Option Str} {t u : Fr → R Bool}
def rOf (m : MX) : Fr → Option Str := fun E => match m E with
 | .er n => some n
 | _ => none
theorem re_of (h : EM X e m) : RE X e (rOf m) := .mk fun C ρ n q => by
 have h' := h C ρ
 unfold rOf at q
 split at q
 ·rename_i n' q1
  rw [q1] at h'
  cases q
  exact h'
 ·cases q
def rNil : Fr → Option Str := fun _ => none
def rCons (r1 : Fr → Option Str) (m : MX) (r2 : Fr → Option Str) : Fr → Option Str := fun E => match r1 E with
 | some n => some n
 | none => (match toD (m E) with
  | .ok _ => r2 E
  | _ => none)
theorem ra_nil : RA X [] rNil := .mk fun C ρ n q => by cases q
theorem ra_cons (h1 : RE X e r1) (h : EM X e m) (h2 : RA X es r2) (hs : starEach (e :: es) X.env = (false, eval e X.env) :: starEach es X.env := by exact se_of rfl) : RA X (e :: es) (rCons r1 m r2) := .mk fun C ρ n q => by
 unfold rCons at q
 split at q
 ·rename_i n' q1
  cases q
  exact fun σ H S W tk hW Q => wpA_of (pa_cons pe_wp pa_wp hs) (h1.run C ρ n q1 σ H S W tk hW _)
 ·split at q
  ·rename_i d q2
   exact fun σ H S W tk hW Q => wpA_of (pa_cons pe_wp pa_wp hs) (h.ee q2 σ H S _ fun v H1 s1 _ => h2.run C ρ n q σ H1 (S.same s1) W tk (fun c H' k s => hW c H' k (s1.trans s)) _)
  ·cases q
variable {k n : Nat} {x : Str} {ps : List Str} {f : List D → R Ret}
def eCallE (f : List D → R Ret) (ma : Fr → R (List D)) (ra : Fr → Option Str) : MX := fun E => match ra E with
 | some n => .er n
 | none => eCall f ma E
theorem em_callE {mr : Fr → R (List D)} {ra : Fr → Option Str} (F : CalX X.prog X.w X.K X.mg X.base k x ps (spM X.K n f)) (hr : Room k X.A) (h : AM X (e :: es) mr) (hra : RA X (e :: es) ra) (hn : (e :: es).length = n := by rfl) (hg : Gl X x := by rfl) (hdb : (x == ("__debug__" : Str)) = false := by decide)
  (he : starEach (e :: es) X.env = (false, eval e X.env) :: starEach es X.env := by exact se_of rfl) (hpl : (backTo pos (starEach es X.env)).any (·.1) = false := by rfl) : EM X (.Call (.Name x p) (e :: es) [] pos) (eCallE f mr ra) := .mk fun C ρ => by
 unfold eCallE
 split
 ·rename_i n' q
  show EX X C ρ _ n'
  intro σ H S W tk hW Q
  obtain ⟨g, fd, CX, hm, hk, hb, F', hx⟩ := F.cal.ex
  exact wpE_of (pe_call (dvs := []) F' hr hg hm hk hb .nil (hx X rfl rfl) pa_wp hdb he hpl) (hra.run C ρ n' q σ H S W tk hW _)
 ·exact em_call F hr h hn hg hdb he hpl C ρ
theorem rt_cmp {op : CmpOp} (h : RE X a r) (h1 : behindInMarks op b = false := by first | exact nobehind _ (by decide) (by decide) | rfl) : RT X (.Compare a [op] [b] pos) r := .mk fun C ρ n q => by
 intro σ H S W tk hW Q
 refine wpT_of (pt_cmp pc_wp h1) ?_
 intro pins s I
 exact binT pe_wp pe_wp I (R := fun _ _ _ => False) (h.run C ρ n q σ H S W tk hW _) fun _ _ _ _ _ _ _ _ _ z => z.elim
theorem rw_or1 (h : RT X a r) : RW X (.BoolOp .Or [a] pos) r := .mk fun C ρ n q => fun σ H S W tk hW Q => wpW_of (pw_or1 pt_wp) (h.run C ρ n q σ H S W tk hW _)
def rOr (r1 : Fr → Option Str) (t : Fr → R Bool) (r2 : Fr → Option Str) : Fr → Option Str := fun E => match r1 E with
 | some n => some n
 | none => (match t E with
  | .ok false => r2 E
  | _ => none)
theorem rw_or (h1 : RT X a r1) (h : TM X a t) (h2 : RW X (.BoolOp .Or (b :: rest) pos) r2) : RW X (.BoolOp .Or (a :: b :: rest) pos) (rOr r1 t r2) := .mk fun C ρ n q => by
 unfold rOr at q
 split at q
 ·rename_i n' q1
  cases q
  exact fun σ H S W tk hW Q => wpW_of (pw_or pt_wp pw_wp) (h1.run C ρ n q1 σ H S W tk hW _)
 ·split at q
  ·rename_i q2
   exact fun σ H S W tk hW Q => wpW_of (pw_or pt_wp pw_wp) (h.run C ρ false q2 σ H S _ fun H1 s1 => iteF (h2.run C ρ n q σ H1 (S.same s1) W tk (fun c H' k s => hW c H' k (s1.trans s)) _))
  ·cases q
theorem RW.rt (h : RW X e r) : RT X e r := .mk fun C ρ n q => fun σ H S W tk hW Q => wpT_of (PW.pt pw_wp) (h.run C ρ n q σ H S W tk hW _)
theorem re_none : RE X e rNil := .mk fun C ρ n q => by cases q
theorem rt_none : RT X e rNil := .mk fun C ρ n q => by cases q
def sIfE (r : Fr → Option Str) (t : Fr → R Bool) (f g : Fr → O) : Fr → O := fun E => match r E with
 | some n => .er n E
 | none => sIf t f g E
theorem sm_ifE {ts us : List Stmt} {f g : Fr → O} (hr : RT X c r) (h : TM X c t) (h1 : BM X ts f) (h2 : BM X us g) : SM X (.If c ts us pos) (sIfE r t f g) := .mk fun C ρ P ok => by
 unfold sIfE at ok
 split at ok
 ·rename_i n q
  intro σ H D S L
  obtain ⟨W, tk, hW⟩ := L.tk
  exact wpS_of (ps_if pt_wp pss_wp pss_wp) (hr.run C ρ n q σ H S W tk (fun c' H1 k s1 => hW n c' ρ σ H1 (ok ρ rfl) k (S.same s1) (vis_same s1)) _)
 ·exact sm_if h h1 h2 C ρ P ok
end
end DL
set_option maxHeartbeats 4000000
namespace DL
open PySem PySem.Spec PyProof.Rows L2
open PySem.HandSPX
section
variable {M : Model} {A : Around} {E : Value → Shared → Prop} {s : Shared} {base : Heap} {env : Env} {outer : List Env} {L e C : Addr} {Z : Obj → Prop}
theorem looks_anyZ {fl : Value} {Q : Unit → Shared → Prop} (hZ : Steady Z) (hfr : A.frames = some (env :: outer)) (hf : env.frame = some L) (hkb : base.StaysIn s.heap) (hen : base.get? e = none) (hl : s.heap.FunFrames base (env :: outer)) (ht : TracedZ s.heap base e Z fl)
  (hQ : ∀ h', HeldZ base (env :: outer) e Z L h' → s.heap.UpToSlots h' → Q () { s with heap := h' }) : wpAny M A (noteFrame (.ref e) env) Q E s := by
 by_cases c : fl = rawInt L
 ·subst c
  exact againZ hf ht (hQ s.heap ⟨hkb, hen, hl, ht⟩ (Heap.UpToSlots.refl _))
 ·obtain ⟨oe, vs, T, oT, ts, he, hz, hd, h1, hnT, hTe, hT, hdT, h3⟩ := ht
  unfold noteFrame
  simp only [hf]
  refine wpAny_bind (wpAny_field he hd h1 ?_)
  rw [if_pos (show (Value.ref T != Value.none) = true from by simp)]
  refine wpAny_bind (wpAny_field hT hdT h3 ?_)
  rw [if_neg (show ¬ ((fl == rawInt L) = true) from by simpa using c)]
  refine wpAny_bind (wpAny_setField hT hdT (Array.getElem?_eq_some_iff.mp h3).1 ?_)
  have other : ∀ b, b ≠ T → (s.heap.update T (Obj.mapFields (·.setIfInBounds 3 Value.none))).get? b = s.heap.get? b := fun b hb => Heap.get?_update_other _ _ (Ne.symm hb)
  have nr : ∀ b o, s.heap.get? b = some o → (∀ vs, o.data ≠ .fields vs) → b ≠ T := fun b o hb hnf q => by
   rw [q, hT] at hb; injection hb with hb; subst hb; exact hnf ts hdT
  refine wpAny_entryZ hZ hfr (hl.of_keeps fun b o hb hnf => ⟨o, (other b (nr b o hb hnf)).trans hb, rfl⟩) hf ((other e (Ne.symm hTe)).trans he)
   (fun b o hbo => (other b fun q => by rw [q, hnT] at hbo; cases hbo).trans (hkb b o hbo)) hen hd (Array.getElem?_eq_some_iff.mp h1).1 hz fun h' hN => ?_
  obtain ⟨x1, x2, x3, x4⟩ := hN
  exact hQ h' ⟨x1, hen, x2, x3⟩ fun b o hb hnf => x4 b o ((other b (nr b o hb hnf)).trans hb) hnf
theorem frames_but {h h' : Heap} : ∀ {l : List Env}, h.FunFrames base l → C ∉ frs l → (∀ b, b ≠ C → h'.get? b = h.get? b) → h'.FunFrames base l
 | [], _, _, _ => trivial
 | env :: l, x, n, k => by
  obtain ⟨hk, ⟨L, o, hf, hb, ho, hd⟩, hr⟩ := x
  have nL : L ≠ C := fun z => n (List.mem_filterMap.mpr ⟨env, List.mem_cons_self, by rw [hf, z]⟩)
  exact ⟨hk, ⟨L, o, hf, hb, (k L nL).trans ho, hd⟩, frames_but hr (fun z => n (by
   obtain ⟨e, he, q⟩ := List.mem_filterMap.mp z
   exact List.mem_filterMap.mpr ⟨e, List.mem_cons_of_mem _ he, q⟩)) k⟩
end
abbrev _root_.L2.Cx.blx (X : Cx) (s : Shared) (H : Hp) (scope : Scope) (cenv : Env) (fp : List Addr) (xe : Value → Shared → Prop) : Cx := { X.blk s H scope cenv fp with xe := xe }
section
variable {X : Cx} {pins : List (Addr × Obj)} {σ : L2.St} {H H3 : Hp} {s s3 : Shared}
theorem unblock {W W' : WX} {scope : Scope} {ce : Env} {fp : List Addr} {xe : Value → Shared → Prop} (tk : Takes X W) (hs : X.stack = X.env :: X.outer) (hf : X.env.frame = some X.env.locals) (I3 : Inv X pins σ H3 s3) (hce : ce.frame = X.env.frame) (hcl : ce.locals = s3.heap.objs.size)
  (f3 : ∀ b ∈ fp, FpOk X pins H3 b) (hW : ∀ cls d σ' H', W' cls d σ' H' → W cls d σ H') {u : Value} {s' : Shared} (x : XE (X.blx s3 H3 scope ce fp xe) W' u s') :
  notedBy (model X.prog X.w) X.A ce (fun e s'' => CompFails (model X.prog X.w) X.A X.xe ce e s'') u s' := by
 obtain ⟨a, B, sI, pins', σ', H', cls, d, rfl, I, nb, up, sky, na, os, ag, w⟩ := x
 have I7 : Inv X pins σ H' sI := I3.call' (ch := fp) I.os I.base I.hok I.bare fun b hb => ⟨(f3 b hb).2.2.2.1, (f3 b hb).2.1, (f3 b hb).2.2.2.2.1, (f3 b hb).2.2.2.2.2⟩
 have nC : H' ce.locals = none := I.free
 obtain ⟨m, hn, _⟩ := I.loc
 have hn : sI.heap.Ns ce.locals m := hn
 have fC : FpOk X pins H' ce.locals := I3.fpOk (Nat.le_of_eq hcl.symm) nC
 obtain ⟨c0, c1, c2, c3, c4, c5⟩ := fC
 have cst : ce.locals ∉ frs X.stack := fun z => by
  rcases List.mem_cons.mp (I7.stkSub _ z) with z | z
  ·exact c1 z
  ·exact c2 z
 have hfr : X.A.frames = some (X.env :: X.outer) := by rw [I3.ok.frames, hs]
 have hnf : noteFrame (.ref a) ce = noteFrame (.ref a) X.env := by unfold PySem.noteFrame PySem.frameOf; rw [hce]
 have fin : ∀ h1, HeldZ B (X.env :: X.outer) a (Zc cls d) X.env.locals h1 → s'.heap.UpToSlots h1 → CompFails (model X.prog X.w) X.A X.xe ce (.ref a) { s' with heap := h1 } := fun h1 hh up1 => by
  have up2 := up.trans up1
  have n2 := up2.ns hn
  refine ⟨m, n2, fun h' m' hn' sb => ?_⟩
  obtain ⟨k1, k2, k3, oe, vs, T, oT, ts, he, hz, hd, h1', hnT, hTe, hT, hdT, h3'⟩ := hh
  obtain ⟨oc, es, ep, hoc, hdc, _⟩ := n2
  have aC : a ≠ ce.locals := fun z => by rw [z, hoc] at he; cases he; rw [hdc] at hd; cases hd
  have TC : T ≠ ce.locals := fun z => by rw [z, hoc] at hT; cases hT; rw [hdc] at hdT; cases hdT
  have sbk : ∀ b, b ≠ ce.locals → h'.get? b = h1.get? b := sb.2
  have gB : ∀ b o, (PySem.W.hideAll B [ce.locals]).get? b = some o → B.get? b = some o := fun b o q => PySem.W.of_hideAll _ q
  have nB : ∀ b o, (PySem.W.hideAll B [ce.locals]).get? b = some o → b ≠ ce.locals := fun b o q z => by
   rw [z, PySem.W.hideAll_none _ List.mem_cons_self] at q; cases q
  have hB : ∀ b, B.get? b = none → (PySem.W.hideAll B [ce.locals]).get? b = none := fun b q => by
   cases r : (PySem.W.hideAll B [ce.locals]).get? b with
   | none => rfl
   | some o => rw [gB b o r] at q; cases q
  have held : HeldZ (PySem.W.hideAll B [ce.locals]) (X.env :: X.outer) a (Zc cls d) X.env.locals h' := by
   refine ⟨fun b o q => (sbk b (nB b o q)).trans (k1 b o (gB b o q)), hB a k2, funFrames_none (frames_but k3 (hs ▸ cst) sbk) fun L hL => hB L ?_, oe, vs, T, oT, ts, (sbk a aC).trans he, hz, hd, h1', hB T hnT, hTe, (sbk T TC).trans hT, hdT, h3'⟩
   exact (k3.mem hL).1
  unfold PySem.passOn
  refine wpAny_bind (wpAny_field ((sbk a aC).trans he) hd h1' ?_)
  rw [if_neg (show ¬ ((Value.ref T == Value.none) = true) from by simp), hce, hf]
  refine wpAny_bind (setFlight_onZ held fun h'' hh'' up'' => ?_)
  refine wpAny_throw (tk _ _ ?_)
  refine ⟨a, PySem.W.hideAll B [ce.locals], { sI with heap := PySem.W.hideAll sI.heap [ce.locals] }, pins, σ, H', cls, d, rfl, ?_, fun b o q hb => ?_, fun b o q hnf => ?_, ?_, na, os, ag, hW _ _ _ _ w⟩
  ·exact I7.turned (t' := sI.toks) (it := ce.locals) (fun b o hb q => PySem.W.hideAll_get _ q (by simpa using hb)) c0 c1 c3 c4 c5
  ·have q1 := PySem.W.of_hideAll _ q
   have b1 : b ≠ ce.locals := fun z => by rw [z, PySem.W.hideAll_none _ List.mem_cons_self] at q; cases q
   exact PySem.W.hideAll_get _ (nb b o q1 hb) (by simpa using b1)
  ·have q1 := PySem.W.of_hideAll _ q
   have b1 : b ≠ ce.locals := fun z => by rw [z, PySem.W.hideAll_none _ List.mem_cons_self] at q; cases q
   obtain ⟨sl, r⟩ := up2 b o q1 hnf
   obtain ⟨sl2, r2⟩ := up'' b _ ((sbk b b1).trans r) hnf
   exact ⟨sl2, r2⟩
  ·rw [hs]
   exact .inr (.inr hh'')
 unfold notedBy
 rw [hnf]
 have sky' : Sky B (X.env :: X.outer) a (Zc cls d) ce.locals s'.heap := hs ▸ sky
 rcases sky' with ⟨hB, hn', hl, oe, vs, he, hz, hd, h1⟩ | fl | ⟨k1, k2, k3, k4⟩
 ·exact look_newZ Zc.steady hfr hl hf he hB hn' hd h1 hz fin
 ·exact looks_onZ Zc.steady hfr hf fl fin
 ·exact looks_anyZ Zc.steady hfr hf k1 k2 k3 k4 fin
theorem inv_xe {xe : Value → Shared → Prop} (I : Inv X pins σ H s) : Inv { X with xe := xe } pins σ H s :=
 ⟨⟨I.ok.mod, I.ok.kind, I.ok.glob, I.ok.blt, I.ok.above, I.ok.inj, I.ok.has, I.ok.cab, I.ok.hd, I.ok.frames, I.ok.stk, I.ok.exf, I.ok.bs, I.ok.bsz, I.ok.noex, I.ok.exfs, I.ok.funs, I.ok.frf⟩, I.os, I.bare, I.base, I.loc, I.cell, I.free, I.freeC, I.pin, I.hok, I.len⟩
theorem lcx_core {Q : VK} {elt tg iter : Expr} {ifs : List Expr} {scope : Scope} {own : List (Str × Nat)} {pos pos' : Pos} {wi : TI} {g : TG} {tt : TT} {te : TE} {use : Option (Value → Sem Unit)} {Qf : Value → Shared → Prop} {W : WX} {Wx : Value → Option Addr → Hp → Prop}
  (hc : X.calm = true) (hN : X.N.Nodup) (I : Inv X pins σ H s) (hi : PI X tg iter wi) (ok : BlkOk X.N X.env.scope scope own) (tk : Takes X W) (hWx : ∀ cls d H', Wx cls d H' → W cls d σ H') (hst : X.stack = X.env :: X.outer) (hfr : X.env.frame = some X.env.locals)
  (hg : ∀ (s : Shared) (H : Hp) (C : Addr) (cl : List (Str × Addr)) (fp : List Addr) (xe : Value → Shared → Prop), PG (X.blx s H scope (compEnvC scope cl C X.env) fp xe) tg g)
  (ht : ∀ (s : Shared) (H : Hp) (C : Addr) (cl : List (Str × Addr)) (fp : List Addr) (xe : Value → Shared → Prop), PTs (X.blx s H scope (compEnvC scope cl C X.env) fp xe) ifs tt)
  (he : ∀ (s : Shared) (H : Hp) (C : Addr) (cl : List (Str × Addr)) (fp : List Addr) (xe : Value → Shared → Prop), Takes (X.blx s H scope (compEnvC scope cl C X.env) fp xe) (fun cls d _ H' => Wx cls d H') → PE (X.blx s H scope (compEnvC scope cl C X.env) fp xe) elt te)
  (hs : ∀ x, foldedSetIterable iter X.env x = pure x) (h : tLc wi g tt te (own.map (·.2)) σ H Q)
  (hRR : ∀ D (ce : Env) s' m H', Inv X pins σ H' s' → Q (.ref D) H' → s'.heap.Ns ce.locals m → FpOk X pins H' ce.locals → compEnds (model X.prog X.w) X.A X.xe use Qf (.ref D) ce (.ok .next) s') :
  wpAny (model X.prog X.w) X.A (comprehension (.ListComp elt [⟨tg, iter, ifs, 0⟩] scope pos) scope X.env pos' (newList []) false (eval iter X.env) use) Qf X.xe s := by
 have hfree : ∀ y ∈ scope.names, y.2 = .free → ∃ c, X.env.cells.lookup y.1 = some c := fun y hy e => by
  rcases ok.free y hy e with k | k
  ·exact I.ok.has _ (.inl k)
  ·exact I.ok.has _ (.inr k)
 refine comprehension_at (use := use) rfl hs (closure_ok hfree) ok.kind (fun y hy e => by rw [ok.uniq y hy, e])
  (thn (hi.run pins s σ H _ I h) fun xv s1 hx => thn hx fun itv s2 h2 => ?_)
 obtain ⟨it, fp, tn, J, H2, e, I2, T, st2, f2, q⟩ := h2
 subst e
 refine wpAny_newObj_type (newEnv_comp ?_) (by show 0 ≤ sizeLine; decide)
 generalize hD : s2.heap.objs.size = D
 have hDn : H2 D = none := I2.hok.fresh (Nat.le_of_eq hD)
 obtain ⟨Wt, ⟨m0, w0⟩, turn⟩ := q D hDn
 generalize hs3 : ({ s2 with heap := s2.heap.push { cls := .type "list", data := .seq ([] : List Value).toArray } } : Shared) = s3
 have I3 : Inv X pins σ (upd H2 D (.lst [])) s3 := by
  rw [← hs3]
  refine I2.laid (t' := s2.toks) (fun b o e => Heap.get?_push_of_some _ e) (Nat.le_of_eq hD) ⟨Nat.zero_le _, [], 0, .nil, ?_⟩
  rw [← hD]
  exact Heap.get?_push_size _ rfl
 have h3 : s3.heap = s2.heap.push { cls := .type "list", data := .seq ([] : List Value).toArray } := by rw [← hs3]
 have f3 : ∀ b ∈ fp, FpOk X pins (upd H2 D (.lst [])) b ∧ b < s3.heap.objs.size := fun b hb => by
  obtain ⟨o, e, _⟩ := T.obj _ _ st2 b hb
  have hlt := Heap.lt_size e
  refine ⟨⟨?_, (f2 b hb).2⟩, by rw [h3, Heap.size_push]; exact Nat.lt_succ_of_lt hlt⟩
  rw [upd_ne (by rw [← hD]; exact Nat.ne_of_lt hlt)]
  exact (f2 b hb).1
 have st3 : tn 0 s3.heap := T.keep _ _ _ st2 fun b _ o e => by rw [h3]; exact Heap.get?_push_of_some _ e
 have I4 := block_start I3 ok hN f3
 have pg := hg s3 (upd H2 D (.lst [])) s3.heap.objs.size (cellsFrom (s3.heap.objs.size + 1) scope.names (cloFrom X.env.cells scope.names [])) fp
 have pt := ht s3 (upd H2 D (.lst [])) s3.heap.objs.size (cellsFrom (s3.heap.objs.size + 1) scope.names (cloFrom X.env.cells scope.names [])) fp
 have pe := he s3 (upd H2 D (.lst [])) s3.heap.objs.size (cellsFrom (s3.heap.objs.size + 1) scope.names (cloFrom X.env.cells scope.names [])) fp
 show codeAny _ _ (.compStart (.ListComp elt [⟨tg, iter, ifs, 0⟩] scope pos) 0 (.ref it) (.ref D) (compEnvC scope (cellsFrom (s3.heap.objs.size + 1) scope.names (cloFrom X.env.cells scope.names [])) s3.heap.objs.size X.env)) (compEnds (model X.prog X.w) X.A X.xe use Qf (.ref D) (compEnvC scope (cellsFrom (s3.heap.objs.size + 1) scope.names (cloFrom X.env.cells scope.names [])) s3.heap.objs.size X.env)) { s3 with heap := pushCells (s3.heap.push { cls := .type "dict", data := .dict #[] }) scope.names }
 have nfp : ∀ b ∈ fp, (upd H2 D (.lst [])) b = none := fun b hb => (f3 b hb).1.1
 generalize hce : compEnvC scope (cellsFrom (s3.heap.objs.size + 1) scope.names (cloFrom X.env.cells scope.names [])) s3.heap.objs.size X.env = ce at I4 pg pt pe ⊢
 have cL : ce.locals = s3.heap.objs.size := by subst hce; rfl
 have cF : ce.frame = X.env.frame := by subst hce; rfl
 generalize hH3 : upd H2 D (.lst []) = H3 at I3 I4 pg pt pe w0 nfp f3
 generalize hs4 : ({ s3 with heap := pushCells (s3.heap.push { cls := .type "dict", data := .dict #[] }) scope.names } : Shared) = s4 at I4 ⊢
 have st4 : tn 0 s4.heap := T.keep _ _ _ st3 fun b _ o e => by rw [← hs4]; exact pushCells_keeps _ _ _ _ (Heap.get?_push_of_some _ e)
 generalize hxe : (notedBy (model X.prog X.w) X.A ce fun e s' => compEnds (model X.prog X.w) X.A X.xe use Qf (.ref D) ce (.error e) s') = xe
 have hE : ∀ e s', CompFails (model X.prog X.w) X.A X.xe ce e s' → compEnds (model X.prog X.w) X.A X.xe use Qf (.ref D) ce (.error e) s' := fun e s' h => by cases use <;> exact h
 have tkx : Takes (X.blx s3 H3 scope ce fp xe) (fun cls d _ H' => Wx cls d H') := fun u s' x => by
  show xe u s'
  rw [← hxe]
  exact wpAny_mono (unblock tk hst hfr I3 cF cL (fun b hb => (f3 b hb).1) (fun cls d _ H' w => hWx cls d H' w) x) (fun _ s'' h => hE _ _ h) fun e s'' h => hE _ _ h
 have pg := pg xe
 have pt := pt xe
 have pe := pe xe tkx
 have I4 : Inv (X.blx s3 H3 scope ce fp xe) [] (wipe σ (own.map (·.2))) H3 s4 := inv_xe I4
 have stat : ∀ {σ' : L2.St} {H' : Hp} {s' : Shared}, Inv (X.blx s3 H3 scope ce fp xe) [] σ' H' s' → (∀ b ∈ fp, H' b = none) → ∀ b ∈ fp, FpOk (X.blx s3 H3 scope ce fp xe) [] H' b := fun {σ' H' s'} I' hn b hb =>
  ⟨hn b hb, (I'.ok.exf b hb).1, I'.ok.exfs b hb, .inl hb, fun x c e => (I'.ok.exf b hb).2 x c e, fun p hp => absurd (show p ∈ ([] : List (Addr × Obj)) ++ [] from hp) (by simp)⟩
 have loop : codeAny (model X.prog X.w) X.A (.compLoop (.ListComp elt [⟨tg, iter, ifs, 0⟩] scope pos) 0 (.ref it) (.ref D) ce) (compEnds (model X.prog X.w) X.A X.xe use Qf (.ref D) ce) s4 := by
  refine compLoop_any (fun n s' => ∃ i H', Inv (X.blx s3 H3 scope ce fp xe) [] (wipe σ (own.map (·.2))) H' s' ∧ tn i s'.heap ∧ (∀ b ∈ fp, H' b = none) ∧ Wt i n H') ?_ m0 ⟨0, H3, I4, st4, nfp, w0⟩
  rintro n s5 ⟨i, H5, I5, st5, n5, w5⟩
  rw [hxe]
  rcases turn i n H5 w5 with ⟨stop, qq⟩ | ⟨go, Nx, hNx, step⟩
  ·refine thnF (T.done (X.blx s3 H3 scope ce fp xe) rfl rfl rfl hc i [] s5 _ H5 (fun _ _ => False) I5 (stat I5 n5) st5 stop) fun r s6 ⟨hr, I6⟩ => ?_
   subst hr
   have I7 : Inv X pins σ H5 s6 := I3.call' (ch := fp) I6.os I6.base I6.hok I6.bare fun b hb => ⟨(f3 b hb).1.2.2.2.1, (f3 b hb).1.2.1, (f3 b hb).1.2.2.2.2.1, (f3 b hb).1.2.2.2.2.2⟩
   have nC : H5 ce.locals = none := I6.free
   obtain ⟨m, hn, _⟩ := I6.loc
   exact hRR D ce s6 m H5 I7 qq hn (I3.fpOk (Nat.le_of_eq cL.symm) nC)
  ·refine thnF (T.item (X.blx s3 H3 scope ce fp xe) rfl rfl rfl hc i [] s5 _ H5 (fun _ _ => False) I5 (stat I5 n5) st5 go) fun r s6 ⟨u, hr, h6⟩ => ?_
   subst hr
   refine thnF h6 fun _ s7 ⟨x, H7, I7, r7, y7, st7, n7⟩ => ?_
   have I7' := I7.pinned (stat I7 n7) (T.obj _ _ st7)
   refine thn (pg.run _ s7 _ H7 x u _ I7' r7 (step x H7 y7)) fun _ s8 ⟨σ8, H8, I8, hw8, q8⟩ => ?_
   refine thn (pt.run _ s8 σ8 H8 _ I8 q8) fun b s9 ⟨H9, I9, q9⟩ => ?_
   have fin : ∀ {s' : Shared} {H' : Hp}, Inv (X.blx s3 H3 scope ce fp xe) ([] ++ pinsAt fp s7.heap) σ8 H' s' → Nx H' → ∃ m, m < n ∧ ∃ i H', Inv (X.blx s3 H3 scope ce fp xe) [] (wipe σ (own.map (·.2))) H' s' ∧ tn i s'.heap ∧ (∀ b ∈ fp, H' b = none) ∧ Wt i m H' := fun {s' H'} I' nx => by
    obtain ⟨m', hm, w'⟩ := hNx H' nx
    have pin' : ∀ b ∈ fp, ∀ o, s7.heap.get? b = some o → s'.heap.get? b = some o ∧ H' b = none := fun b hb o e =>
     let z := I'.pin (b, o) (List.mem_append_right _ (List.mem_append_right _ (mem_pinsAt hb e)))
     ⟨z.1, z.2.1⟩
    refine ⟨m', hm, i + 1, H', (I'.unpinned (pins := [])).weak (by rw [← hw8, wipe_length]) (fun j v e => ?_), T.keep _ _ _ st7 fun b hb o e => (pin' b hb o e).1, fun b hb => ?_, w'⟩
    ·rw [← hw8] at e
     exact (wipe_some e).1
    ·obtain ⟨o, e, _⟩ := T.obj _ _ st7 b hb
     exact (pin' b hb o e).2
   cases b with
   | false =>
    simp only [Bool.false_eq_true, if_false] at q9 ⊢
    exact fin I9 q9
   | true =>
    simp only [if_true] at q9 ⊢
    refine thn (pe.run _ s9 σ8 H9 _ I9 q9) fun z s10 ⟨yv, H10, I10, r10, acc, hD10, hz10, nx⟩ => ?_
    exact L2.app_ok (X := X.blx s3 H3 scope ce fp xe) I10 hD10 hz10 r10 fun s11 I11 => fin I11 nx
 exact codeAny_compStart_list loop (T.self X.A 0 _ _ _ st4 loop)
end
def Blx (X : Cx) (scope : Scope) (X' : Cx) : Prop := ∃ (s : Shared) (H : Hp) (c : Addr) (cl : List (Str × Addr)) (fp : List Addr) (xe : Value → Shared → Prop), X' = X.blx s H scope (compEnvC scope cl c X.env) fp xe
theorem Blk.blx {X : Cx} {scope : Scope} {X' : Cx} (h : Blk X scope X') : Blx X scope X' := by
 obtain ⟨s, H, c, cl, fp, e⟩ := h
 exact ⟨s, H, c, cl, fp, fun _ _ => False, e⟩
def gGx (X : Cx) (scope : Scope) (tg : Expr) : TG := fun v σ H Q => ∃ (C : Ctx) (ρ : Rho) (d : D) (ρg : Rho) (L : List Nat), SRel X.K C H σ ρ ∧ Rep X.K (vis C (ows ρ) H) v d ∧ (∀ X', Blx X scope X' → GT X' C ρ tg d ρg L) ∧
 ∀ σ', SRel X.K C H σ' ρg → Same (vis C (ows ρ) H) (vis C (ows ρg) H) → Agr L σ σ' → Q σ' H
def gTx (X : Cx) (scope : Scope) (ifs : List Expr) : TT := fun σ H Q => ∃ (C : Ctx) (ρ : Rho) (c : Bool), SRel X.K C H σ ρ ∧ (∀ X', Blx X scope X' → ETs X' C ρ ifs c) ∧ ∀ H', Same H H' → Q c H'
def gEx (X : Cx) (scope : Scope) (elt : Expr) (n : Str) (H0 : Hp) : TE := fun σ H Q =>
 (∃ (C : Ctx) (ρ : Rho) (d : D), SRel X.K C H σ ρ ∧ (∀ X', Blx X scope X' → EE X' C ρ elt d) ∧ ∀ v H', Same H H' → Rep X.K (vis C (ows ρ) H') v d → Q v H') ∨
 ∃ (C : Ctx) (ρ : Rho), SRel X.K C H σ ρ ∧ (∀ X', Blx X scope X' → EX X' C ρ elt n) ∧ Same H0 H
def Outs (K : PySem.W.Frag) (n : Str) (H0 : Hp) : Value → Option Addr → Hp → Prop := fun cls d H' => ∃ c, cls = .ref c ∧ d = none ∧ clsOf K n = some c ∧ Same H0 H'
section
variable {X : Cx} {C : Ctx} {ρ ρw : Rho} {e elt tg iter : Expr} {ifs : List Expr} {scope : Scope} {own : List (Str × Nat)} {pos spos py : Pos} {P : Post} {n : Str} {H0 : Hp}
theorem gGx_ok (s : Shared) (H : Hp) (c : Addr) (cl : List (Str × Addr)) (fp : List Addr) (xe : Value → Shared → Prop) : PG (X.blx s H scope (compEnvC scope cl c X.env) fp xe) tg (gGx X scope tg) := ⟨fun pins s' σ H' v u Q I r ⟨C, ρ, d, ρg, L, S, rr, hg, q⟩ => hg _ ⟨s, H, c, cl, fp, xe, rfl⟩ σ H' v S rr Q q pins s' u I r⟩
theorem gTx_ok (s : Shared) (H : Hp) (c : Addr) (cl : List (Str × Addr)) (fp : List Addr) (xe : Value → Shared → Prop) : PTs (X.blx s H scope (compEnvC scope cl c X.env) fp xe) ifs (gTx X scope ifs) := ⟨fun pins s' σ H' Q I ⟨C, ρ, k, S, hg, q⟩ => hg _ ⟨s, H, c, cl, fp, xe, rfl⟩ σ H' S Q q pins s' I⟩
theorem gEx_ok (s : Shared) (H : Hp) (c : Addr) (cl : List (Str × Addr)) (fp : List Addr) (xe : Value → Shared → Prop) (tk : Takes (X.blx s H scope (compEnvC scope cl c X.env) fp xe) (fun cls d _ H' => Outs X.K n H0 cls d H')) :
  PE (X.blx s H scope (compEnvC scope cl c X.env) fp xe) elt (gEx X scope elt n H0) := ⟨fun pins s' σ H' Q I h => by
 rcases h with ⟨C, ρ, d, S, hg, q⟩ | ⟨C, ρ, S, hg, s0⟩
 ·exact hg _ ⟨s, H, c, cl, fp, xe, rfl⟩ σ H' S Q q pins s' I
 ·exact hg _ ⟨s, H, c, cl, fp, xe, rfl⟩ σ H' S _ tk (fun c' H'' k s1 => ⟨c', rfl, rfl, k, s0.trans s1⟩) Q pins s' I⟩
def LcOkX {β : Type} (X : Cx) (scope : Scope) (own : List (Str × Nat)) (tg : Expr) (ifs : List Expr) (elt : Expr) (ρw : Rho) (xs : List β) (k : Nat) (n : Str) (enc : β → D) (p : β → Bool) (f : β → D) : Prop :=
 ∀ (C : Ctx) (i : Nat) (x : β), i ≤ k → xs[i]? = some x → ∃ ρg L, (∀ X', Blx X scope X' → GT X' C ρw tg (enc x) ρg L) ∧ ows ρg = ows ρw ∧ (∀ j ∈ L, j ∈ own.map (·.2)) ∧ (∀ X', Blx X scope X' → ETs X' C ρg ifs (p x)) ∧
  (i < k → p x = true → ∀ X', Blx X scope X' → EE X' C ρg elt (f x)) ∧ (i = k → p x = true ∧ ∀ X', Blx X scope X' → EX X' C ρg elt n)
theorem lcx_reading {β : Type} {xs : List β} {k : Nat} {enc : β → D} {p : β → Bool} {f : β → D} {σ : L2.St} {H : Hp} (S : SRel X.K C H σ ρ) (hi : EI X C ρ tg iter (xs.map enc)) (hw : wipeR ρ (own.map (·.2)) = ρw) (how : ows ρw = ows ρ) (hz : xs.length ≤ sizeLine) (hk : k < xs.length)
  (hs : LcOkX X scope own tg ifs elt ρw xs k n enc p f) {Q : VK} :
  tLc (wpI X tg iter) (gGx X scope tg) (gTx X scope ifs) (gEx X scope elt n H) (own.map (·.2)) σ H Q := by
 refine hi σ H S _ fun J H1 s1 y1 D nD => ?_
 have S1 := S.same s1
 obtain ⟨Sh, vh⟩ := S1.hide (o := .lst []) nD
 have mD : D ∈ (D :: C.hid) := List.mem_cons_self
 have Sw : SRel X.K { C with hid := D :: C.hid } (upd H1 D (.lst [])) (wipe σ (own.map (·.2))) ρw := hw ▸ Sh.wiped _
 refine ⟨fun i m H' => i + m = k ∧ ∃ acc, H' D = some (.lst acc) ∧ acc.length ≤ i ∧ SRel X.K { C with hid := D :: C.hid } H' (wipe σ (own.map (·.2))) ρw ∧ Same (vis C (ows ρ) H1) (vis { C with hid := D :: C.hid } (ows ρw) H') ∧ Same H1 H',
  ⟨k, by omega, [], upd_same, Nat.le_refl _, Sw, by rw [how]; exact vh, same_upd nD⟩, ?_⟩
 rintro i m H2 ⟨em, acc, hD, la, S2, v2, h12⟩
 have hlt : i < xs.length := by omega
 have hlt' : i < (xs.map enc).length := by rw [List.length_map]; exact hlt
 have hx : xs[i]? = some xs[i] := List.getElem?_eq_getElem hlt
 obtain ⟨ρg, L, hG, eg, hL, hT, hE, hX⟩ := hs { C with hid := D :: C.hid } i xs[i] (by omega) hx
 refine .inr ⟨y1.go _ _ _ i (S2.lat v2) hlt', fun H' => i < k ∧ ∃ acc, H' D = some (.lst acc) ∧ acc.length ≤ i + 1 ∧ SRel X.K { C with hid := D :: C.hid } H' (wipe σ (own.map (·.2))) ρw ∧ Same (vis C (ows ρ) H1) (vis { C with hid := D :: C.hid } (ows ρw) H') ∧ Same H1 H', fun H' ⟨ik, acc', w⟩ => ⟨m - 1, by omega, by omega, acc', w⟩, fun x H3 y => ?_⟩
 obtain ⟨d, hd', s3, r3⟩ := y1.yl _ _ _ i x H3 (S2.lat v2) hlt' y
 have ed : d = enc xs[i] := by
  rw [List.getElem?_map, hx] at hd'
  exact (Option.some.inj hd').symm
 subst ed
 refine ⟨_, ρw, enc xs[i], ρg, L, S2.same s3, r3, hG, fun σ4 S4 s4 k4 => ⟨wipe_again k4.1 hL k4.2, ?_⟩⟩
 refine ⟨_, ρg, p xs[i], S4, hT, fun H5 s5 => ?_⟩
 have w5 : SRel X.K { C with hid := D :: C.hid } H5 (wipe σ (own.map (·.2))) ρw := (S2.same s3).same s5
 have vv5 : Same (vis { C with hid := D :: C.hid } (ows ρw) H2) (vis { C with hid := D :: C.hid } (ows ρw) H5) := vis_same (s3.trans s5)
 by_cases ik : i = k
 ·obtain ⟨hp, hX⟩ := hX ik
  rw [hp]
  exact iteT (.inr ⟨_, ρg, S4.same s5, hX, s1.trans (h12.trans (s3.trans s5))⟩)
 have ik' : i < k := by omega
 cases hp : p xs[i] with
 | true =>
  refine iteT (.inl ⟨_, ρg, f xs[i], S4.same s5, hE ik' hp, fun v H6 s6 r6 => ?_⟩)
  have s26 := (s3.trans s5).trans s6
  have b1 : atT (H6 D) = false := by rw [s26 _ _ hD]; rfl
  refine ⟨acc, s26 _ _ hD, by omega, ik', acc ++ [v], upd_same, by rw [List.length_append]; show acc.length + 1 ≤ i + 1; omega, (S2.same s26).updHid mD b1 rfl, ?_, ?_⟩
  ·rw [vis_hid mD b1 rfl]
   exact v2.trans (vis_same s26)
  ·intro b u hb
   have nb : b ≠ D := ne_of_none hb nD
   rw [upd_ne nb]
   exact s26 _ _ (h12 _ _ hb)
 | false =>
  exact iteF ⟨ik', acc, (s3.trans s5) _ _ hD, by omega, w5, v2.trans vv5, h12.trans (s3.trans s5)⟩
theorem ws_setLcX {β : Type} {y : Str} {xs : List β} {k : Nat} {enc : β → D} {p : β → Bool} {f : β → D} (hi : EI X C ρ tg iter (xs.map enc)) (hs : LcOkX X scope own tg ifs elt ρw xs k n enc p f) (h : P.er n ρ) (hw : wipeR ρ (own.map (·.2)) = ρw) (how : ows ρw = ows ρ) (hz : xs.length ≤ sizeLine) (hk : k < xs.length)
  (ok : BlkOk X.N X.env.scope scope own) (hN : X.N.Nodup) (hst : X.stack = X.env :: X.outer) (hfr : X.env.frame = some X.env.locals) (hsw : swapsWith (.ListComp elt [⟨tg, iter, ifs, 0⟩] scope pos) (some (.Name y py)) spos.line X.env = pure true := by exact sw_true rfl rfl rfl (by decide +kernel))
  (hc : X.calm = true := by rfl) (hf : ∀ x, foldedSetIterable iter X.env x = pure x := by intro _; rfl) : WS X C ρ (.Assign [.Name y py] (.ListComp elt [⟨tg, iter, ifs, 0⟩] scope pos) spos) P := fun σ H D S L pins s I => by
 obtain ⟨W, tk, hW⟩ := L.tk
 rw [exec_Assign_Name_used _ _ _ _ hsw]
 refine wpAny_bind (wpAny_standAt (wpAny_bind ?_))
 show wpAny _ X.A (do let _ ← comprehension (.ListComp elt [⟨tg, iter, ifs, 0⟩] scope pos) scope X.env (firstIterPos [⟨tg, iter, ifs, 0⟩] pos) (newList []) false (eval iter X.env) (some (assign (.Name y py) X.env))) _ _ s
 refine wpAny_bind (thn (Q := fun _ _ => False) (lcx_core (Q := fun _ _ => False) hc hN I pi_wp ok tk (fun cls d H' ⟨c, e1, e2, q, s1⟩ => e1 ▸ e2 ▸ hW n c ρ σ H' h q (S.same s1) (vis_same s1)) hst hfr gGx_ok gTx_ok gEx_ok hf (lcx_reading S hi hw how hz hk hs) fun _ _ _ _ _ _ q => q.elim) fun _ _ q => q.elim)
end
end DL
set_option maxHeartbeats 4000000
namespace DL
open PySem PySem.Spec PyProof.Rows L2
def lcTE (b : R Bool) (v : R RV) : R (Option D) := match b with
 | .ok true => (match v with
  | .er n => .er n
  | v => (match toD v with
   | .ok x => .ok (some x)
   | _ => .bad))
 | .ok false => .ok none
 | _ => .bad
def lc1E (g : D → R (List (Nat × D))) (t : Fr → R Bool) (m : MX) (E : Fr) (d : D) : R (Option D) := match g d with
 | .ok ss => lcTE (t (setsF E ss)) (m (setsF E ss))
 | _ => .bad
def optRE (x : R (Option D)) (l : R (List D)) : R (List D) := match x with
 | .ok (some d) => (match l with
  | .ok ds => .ok (d :: ds)
  | r => r)
 | .ok none => l
 | .er n => .er n
 | .bad => .bad
def lcNE (h : D → R (Option D)) : List D → R (List D)
 | [] => .ok []
 | d :: ds => optRE (h d) (lcNE h ds)
def lstRE : R (List D) → R RV
 | .ok ds => .ok (.fr ds)
 | .er n => .er n
 | .bad => .bad
def lcGoE (mi : R (List D)) (fre : Bool) (h : D → R (Option D)) : R RV := match mi with
 | .ok ds => if fre = true ∧ ds.length ≤ sizeLine then lstRE (lcNE h ds) else .bad
 | _ => .bad
def eLcE (js : List Nat) (g : D → R (List (Nat × D))) (mi : Fr → R (List D)) (t : Fr → R Bool) (m : MX) : MX := fun E => lcGoE (mi E) (freeS E js) (lc1E g t m (wipeF E js))
theorem lc1E_ok {g : D → R (List (Nat × D))} {t : Fr → R Bool} {m : MX} {E : Fr} {d : D} {x : Option D} (q : lc1E g t m E d = .ok x) : lc1 g t m E d = .ok x := by
 unfold lc1E at q
 unfold lc1
 split at q
 ·rename_i ss e
  try rw [e]
  show lc1.lcT _ _ = _
  unfold lcTE at q
  split at q
  ·rename_i e1
   try rw [e1]
   unfold lc1.lcT
   split at q
   ·cases q
   ·split at q
    ·rename_i e3
     try rw [e3]
     exact q
    ·cases q
  ·rename_i e1
   rw [e1]
   exact q
  ·cases q
 ·cases q
theorem lcNE_ok {g : D → R (List (Nat × D))} {t : Fr → R Bool} {m : MX} {E : Fr} : ∀ {ds vs : List D}, lcNE (lc1E g t m E) ds = .ok vs → lcN (lc1 g t m E) ds = .ok vs
 | [], vs, q => q
 | d :: ds, vs, q => by
  rw [lcNE] at q
  rw [lcN]
  cases e : lc1E g t m E d with
  | ok x =>
   rw [lc1E_ok e]
   rw [e] at q
   cases x with
   | some v =>
    cases e2 : lcNE (lc1E g t m E) ds with
    | ok ws =>
     rw [lcNE_ok e2]
     rw [e2] at q
     exact q
    | er n => rw [e2] at q; cases q
    | bad => rw [e2] at q; cases q
   | none => exact lcNE_ok (ds := ds) q
  | er n => rw [e] at q; cases q
  | bad => rw [e] at q; cases q
theorem lcNE_er {h : D → R (Option D)} {n : Str} : ∀ {ds : List D}, lcNE h ds = .er n → ∃ (k : Nat) (x : D), ds[k]? = some x ∧ h x = .er n ∧ ∀ i y, i < k → ds[i]? = some y → ∃ o, h y = .ok o
 | [], q => by cases q
 | d :: ds, q => by
  rw [lcNE] at q
  cases e : h d with
  | ok x =>
   rw [e] at q
   have q' : lcNE h ds = .er n := by
    cases x with
    | some v =>
     cases e2 : lcNE h ds with
     | ok ws => rw [e2] at q; cases q
     | er n' => rw [e2] at q; exact q
     | bad => rw [e2] at q; cases q
    | none => exact q
   obtain ⟨k, x', k1, k2, k3⟩ := lcNE_er q'
   refine ⟨k + 1, x', by simpa using k1, k2, fun i y hi hy => ?_⟩
   cases i with
   | zero =>
    have : d = y := by simpa using hy
    exact ⟨x, this ▸ e⟩
   | succ i => exact k3 i y (by omega) (by simpa using hy)
  | er n' =>
   rw [e] at q
   cases q
   exact ⟨0, d, rfl, e, fun i y hi => absurd hi (Nat.not_lt_zero _)⟩
  | bad => rw [e] at q; cases q
section
variable {X : Cx} {C : Ctx} {ρ : Rho} {e a b c tg iter elt : Expr} {ifs : List Expr} {es : List Expr} {m ma mb mc : MX} {d : D} {ds : List D} {pos p spos py apos : Pos} {t : Fr → R Bool} {P : Post} {scope : Scope} {own : List (Str × Nat)} {n : Str}
structure LcMx (X : Cx) (scope : Scope) (own : List (Str × Nat)) (tg : Expr) (ifs : List Expr) (elt : Expr) (g : D → R (List (Nat × D))) (t : Fr → R Bool) (m : MX) : Prop where
 gt : ∃ L, (∀ j ∈ L, j ∈ own.map (·.2)) ∧ ∀ X', Blx X scope X' → GM X' tg g L
 ts : ∀ X', Blx X scope X' → TsM X' ifs t
 el : ∀ X', Blx X scope X' → EM X' elt m
theorem LcMx.lcm {g : D → R (List (Nat × D))} (h : LcMx X scope own tg ifs elt g t m) : LcM X scope own tg ifs elt g t m :=
 ⟨let ⟨L, h1, h2⟩ := h.gt; ⟨L, h1, fun X' b => h2 X' b.blx⟩, fun X' b => h.ts X' b.blx, fun X' b => h.el X' b.blx⟩
theorem lcx_ok {g : D → R (List (Nat × D))} (h : LcMx X scope own tg ifs elt g t m) (nx : ∃ s H c cl fp xe, Blx X scope (X.blx s H scope (compEnvC scope cl c X.env) fp xe)) {k : Nat} {x0 : D} (hf : freeS (frOf ρ) (own.map (·.2)) = true) (hx0 : ds[k]? = some x0)
  (q0 : lc1E g t m (wipeF (frOf ρ) (own.map (·.2))) x0 = .er n) (q : ∀ i y, i < k → ds[i]? = some y → ∃ o, lc1E g t m (wipeF (frOf ρ) (own.map (·.2))) y = .ok o) :
  LcOkX X scope own tg ifs elt (wipeR ρ (own.map (·.2))) ds k n (fun d => d) (fun d => match lc1E g t m (wipeF (frOf ρ) (own.map (·.2))) d with
   | .ok none => false
   | _ => true) (giveD (lc1 g t m (wipeF (frOf ρ) (own.map (·.2))))) := fun C i x hik hx => by
 obtain ⟨L, hL, hg⟩ := h.gt
 obtain ⟨s, H, cc, cl, fp, xe, blk⟩ := nx
 have go : ∃ ss, g x = .ok ss := by
  have : lc1E g t m (wipeF (frOf ρ) (own.map (·.2))) x ≠ .bad := by
   rcases Nat.lt_or_eq_of_le hik with z | z
   ·obtain ⟨o, e⟩ := q i x z hx
    rw [e]; intro z; cases z
   ·subst z
    rw [hx0] at hx
    cases hx
    rw [q0]; intro z; cases z
  cases e : g x with
  | ok ss => exact ⟨ss, rfl⟩
  | er n' => exact absurd (by unfold lc1E; rw [e]) this
  | bad => exact absurd (by unfold lc1E; rw [e]) this
 obtain ⟨ss, q1⟩ := go
 have hq := (hg _ blk C ρ x ss q1).2
 obtain ⟨o1, o2⟩ := ows_wipeR hf
 have fr : frOf (setsR (wipeR ρ (own.map (·.2))) ss) = setsF (wipeF (frOf ρ) (own.map (·.2))) ss := by rw [frOf_sets, frOf_wipe]
 have e1 : lc1E g t m (wipeF (frOf ρ) (own.map (·.2))) x = lcTE (t (setsF (wipeF (frOf ρ) (own.map (·.2))) ss)) (m (setsF (wipeF (frOf ρ) (own.map (·.2))) ss)) := by unfold lc1E; rw [q1]
 have e2 : lc1 g t m (wipeF (frOf ρ) (own.map (·.2))) x = lc1.lcT (t (setsF (wipeF (frOf ρ) (own.map (·.2))) ss)) (toD (m (setsF (wipeF (frOf ρ) (own.map (·.2))) ss))) := by unfold lc1; rw [q1]
 refine ⟨setsR (wipeR ρ (own.map (·.2))) ss, L, fun X' b => (hg X' b C _ x ss q1).1, ows_setsR (L := own.map (·.2)) (fun q hq' => hL _ (hq q hq')) o2, hL, fun X' b => ?_, fun hlt hp X' b => ?_, fun hk => ?_⟩
 ·refine h.ts X' b C _ _ ?_
  rw [fr]
  dsimp only
  rcases Nat.lt_or_eq_of_le hik with z | z
  ·obtain ⟨o, e⟩ := q i x z hx
   rw [e]
   rw [e1] at e
   unfold lcTE at e
   split at e
   ·rename_i q2
    split at e
    ·cases e
    ·split at e
     ·cases e; exact q2
     ·cases e
   ·rename_i q2
    cases e; exact q2
   ·cases e
  ·subst z
   rw [hx0] at hx
   cases hx
   rw [q0]
   rw [e1] at q0
   unfold lcTE at q0
   split at q0
   ·rename_i q2; exact q2
   ·cases q0
   ·cases q0
 ·obtain ⟨o, e⟩ := q i x hlt hx
  dsimp only at hp
  rw [e] at hp
  cases o with
  | none => cases hp
  | some v =>
   have e' := lc1E_ok e
   unfold giveD
   rw [e']
   refine (h.el X' b).ee ?_
   rw [fr]
   rw [e2] at e'
   unfold lc1.lcT at e'
   split at e'
   ·split at e'
    ·rename_i q3
     cases e'
     exact q3
    ·cases e'
   ·cases e'
   ·cases e'
 ·subst hk
  rw [hx0] at hx
  cases hx
  refine ⟨by dsimp only; rw [q0], fun X' b => ?_⟩
  have hm := h.el X' b C (setsR (wipeR ρ (own.map (·.2))) ss)
  rw [fr] at hm
  rw [e1] at q0
  unfold lcTE at q0
  split at q0
  ·split at q0
   ·rename_i n' e3
    cases q0
    rw [e3] at hm
    exact hm
   ·split at q0 <;> cases q0
  ·cases q0
  ·cases q0
theorem sm_setLcE (i : Nat) {y : Str} {g : D → R (List (Nat × D))} {mi : Fr → R (List D)} (hi : IM X tg iter mi) (h : LcMx X scope own tg ifs elt g t m) (ok : BlkOk X.N X.env.scope scope own) (hN : X.N.Nodup) (hy : X.N[i]? = some y := by rfl) (hyl : X.env.scope.names.lookup y = some .local := by rfl)
  (hsw : swapsWith (.ListComp elt [⟨tg, iter, ifs, 0⟩] scope pos) (some (.Name y py)) spos.line X.env = pure true := by exact sw_true rfl rfl rfl (by decide +kernel)) (hc : X.calm = true := by rfl) (hf : ∀ x, foldedSetIterable iter X.env x = pure x := by intro _; rfl) (hst : X.stack = X.env :: X.outer := by rfl) (hfr : X.env.frame = some X.env.locals := by rfl) :
  SM X (.Assign [.Name y py] (.ListComp elt [⟨tg, iter, ifs, 0⟩] scope pos) spos) (sSet i (eLcE (own.map (·.2)) g mi t m)) := .mk fun C ρ P okk => by
 have h0 := sm_setLc (py := py) (spos := spos) (pos := pos) i hi h.lcm ok hN hy hyl hsw hc hf C ρ P
 unfold sSet eLcE lcGoE at okk
 unfold sSet eLc lcGo at h0
 split at okk
 ·rename_i ds q
  rw [q] at h0
  dsimp only at h0
  split at okk
  ·rename_i hz
   rw [if_pos hz] at h0
   cases q2 : lcNE (lc1E g t m (wipeF (frOf ρ) (own.map (·.2)))) ds with
   | ok vs =>
    rw [lcNE_ok q2] at h0
    rw [q2] at okk
    exact h0 okk
   | er n =>
    rw [q2] at okk
    obtain ⟨k, x, k1, k2, k3⟩ := lcNE_er q2
    exact ws_setLcX (enc := fun d : D => d) (xs := ds) (by rw [List.map_id']; exact hi C ρ ds q) (lcx_ok h ⟨X.s_0, (fun _ => none), X.env.locals, [], [], fun _ _ => False, X.s_0, (fun _ => none), X.env.locals, [], [], fun _ _ => False, rfl⟩ hz.1 k1 k2 k3) (okk ρ rfl) rfl (ows_wipeR hz.1).1 hz.2 (List.getElem?_eq_some_iff.mp k1).1 ok hN hst hfr hsw hc hf
   | bad => rw [q2] at okk; exact okk.elim
  ·exact okk.elim
 ·exact okk.elim
theorem reps_ofStrs {K : PySem.W.Frag} {H : Hp} : ∀ ys : List Str, Reps K H (ys.map V.str) (ys.map D.str)
 | [] => .nil
 | y :: ys => .cons (.at _) (reps_ofStrs ys)
theorem ef_split {x y : Str} (ha : EE X C ρ a (.str x)) (hb : EE X C ρ b (.str y)) (hy : (y.length == 0) = false) (hz : x.length + 2 ≤ sizeLine) (hs : starEach [b] X.env = [(false, eval b X.env)] := by rfl) (hbase : attributeBase a "split" X.env (eval a X.env) = eval a X.env := by rfl) (hline : (apos.endLine == pos.line) = true := by rfl) :
  EF X C ρ (.Call (.Attribute a "split" apos) [b] [] pos) ((Txt.split x y).map D.str) := fun σ H S Q q =>
 wpE_of (pe_m1 PySem.F.slot_str_split PySem.F.type_str_split mt_split pe_wp pe_wp hs hbase hline) (ha σ H S _ fun v H1 s1 r1 => by
  cases r1
  exact ⟨⟨x, rfl⟩, hb σ H1 (S.same s1) _ fun u H2 s2 r2 => by
   cases r2
   exact ⟨x, y, rfl, rfl, hy, hz, fun p np => q p _ _ ((s1.trans s2).free np) ((s1.trans s2).trans (same_upd np)) upd_same (reps_ofStrs _)⟩⟩)
theorem ee_join {z : Str} {ys : List Str} (ha : EE X C ρ a (.str z)) (hb : EL X C ρ b (ys.map D.str)) (hz : (ys.map (·.length)).sum + ys.length * z.length ≤ 16777216) (hs : starEach [b] X.env = [(false, eval b X.env)] := by rfl) (hbase : attributeBase a "join" X.env (eval a X.env) = eval a X.env := by rfl) (hline : (apos.endLine == pos.line) = true := by rfl) :
  EE X C ρ (.Call (.Attribute a "join" apos) [b] [] pos) (.str (Txt.join z ys)) := fun σ H S Q q =>
 wpE_of (pe_m1 PySem.F.slot_str_join PySem.F.type_str_join mt_join pe_wp pe_wp hs hbase hline) (ha σ H S _ fun v H1 s1 r1 => by
  cases r1
  exact ⟨⟨z, rfl⟩, hb σ H1 (S.same s1) _ fun p xs H2 s2 sq rs => by
   have e1 := reps_strs rs
   subst e1
   exact ⟨z, p, ys, rfl, rfl, .inl sq, hz, q _ H2 (s1.trans s2) (.at _)⟩⟩)
def splR (x y : Str) : R RV := if (y.length == 0) = false ∧ x.length + 2 ≤ sizeLine then .ok (.fr ((Txt.split x y).map D.str)) else .bad
abbrev eSplit := e2 (str2 splR)
theorem em_split (ha : EM X a ma) (hb : EM X b mb) (hs : starEach [b] X.env = [(false, eval b X.env)] := by exact se_of rfl) (hbase : attributeBase a "split" X.env (eval a X.env) = eval a X.env := by rfl) (hline : (apos.endLine == pos.line) = true := by rfl) : EM X (.Call (.Attribute a "split" apos) [b] [] pos) (eSplit ma mb) := em_str2 ha hb fun C ρ x y h1 h2 => by
 unfold splR
 split
 ·rename_i z
  exact ef_split h1 h2 z.1 z.2 hs hbase hline
 ·trivial
def joinR (x : R D) (l : R (List D)) : R RV := match x, l with
 | .ok (.at (.str z)), .ok ds => (match strsOf ds with
  | some ys => if (ys.map (·.length)).sum + ys.length * z.length ≤ 16777216 then .ok (.im (.str (Txt.join z ys))) else .bad
  | none => .bad)
 | _, _ => .bad
def eJoin (ma mb : MX) : MX := fun E => joinR (toD (ma E)) (toL (mb E))
theorem em_join (ha : EM X a ma) (hb : EM X b mb) (hs : starEach [b] X.env = [(false, eval b X.env)] := by exact se_of rfl) (hbase : attributeBase a "join" X.env (eval a X.env) = eval a X.env := by rfl) (hline : (apos.endLine == pos.line) = true := by rfl) : EM X (.Call (.Attribute a "join" apos) [b] [] pos) (eJoin ma mb) := .mk fun C ρ => by
 unfold eJoin joinR
 split
 ·rename_i z ds q1 q2
  split
  ·rename_i ys q3
   split
   ·exact ee_join (ha.ee q1) (strsOf_eq q3 ▸ hb.el q2) (by assumption) hs hbase hline
   ·trivial
  ·trivial
 ·trivial
end
end DL
namespace DL
open PySem PySem.Spec PyProof.Rows L2
section
variable {X : Cx} {C : Ctx} {ρ : Rho} {es : List Expr} {m : MX} {tg iter elt : Expr} {ifs : List Expr} {pos spos py : Pos} {t : Fr → R Bool} {scope : Scope} {own : List (Str × Nat)}
def eTupE (ma : Fr → R (List D)) (ra : Fr → Option Str) : MX := fun E => match ra E with
 | some n => .er n
 | none => eTup ma E
theorem em_tupE {ma : Fr → R (List D)} {ra : Fr → Option Str} (h : AM X es ma) (hra : RA X es ra) {x1} (hl : es.length ≤ sizeLine := by exact Nat.le_of_ble_eq_true rfl) : EM X (.Tuple es x1 pos) (eTupE ma ra) := .mk fun C ρ => by
 unfold eTupE
 split
 ·rename_i n q
  show EX X C ρ _ n
  intro σ H S W tk hW Q
  exact wpE_of (pe_tup pa_wp) (hra.run C ρ n q σ H S W tk hW _)
 ·exact em_tup h hl C ρ
end
end DL
set_option maxHeartbeats 4000000
namespace DL
open PySem PySem.Spec PyProof.Rows L2
section
variable {K : PySem.W.Frag} {H : Hp}
def isL : Option HO → Bool
 | some (.lst _) => true
 | some (.frz _ (.lst _)) => true
 | _ => false
open Classical in
noncomputable def keepS (K : PySem.W.Frag) (S : List D) (W : Hp) : Hp := fun b => if isL (W b) = true ∧ ¬ (∃ x ∈ S, Rep K W (.ref b) x) then none else W b
theorem keepS_other {S : List D} {a : Addr} (h : isL (H a) = false) : keepS K S H a = H a := if_neg fun z => by rw [h] at z; exact absurd z.1 (by decide)
theorem keepS_list {S : List D} {a : Addr} {x : D} (hx : x ∈ S) (r : Rep K H (.ref a) x) : keepS K S H a = H a := if_neg fun z => z.2 ⟨x, hx, r⟩
mutual
theorem Rep.keep (n : NoLists K) {S : List D} : ∀ (d : D) {v : V}, (∀ x ∈ d.subs, x ∈ S) → Rep K H v d → Rep K (keepS K S H) v d
 | .at w, v, h, r => by cases r; exact .at _
 | .tup ds, v, h, r => by
  cases r with
  | tup s r => exact .tup (by rw [keepS_other (by rw [s]; rfl)]; exact s) (Reps.keep n ds h r)
 | .lst ds, v, h, r => by
  have r0 := r
  cases r with
  | @lst a xs _ s r =>
   have e : keepS K S H a = H a := keepS_list (h _ List.mem_cons_self) r0
   refine .lst (.inl ?_) (Reps.keep n ds (fun x hx => h x (List.mem_cons_of_mem _ hx)) r)
   rcases sq_rd n s with z | ⟨o, z⟩
   ·exact .inl (e.trans z)
   ·exact .inr ⟨o, e.trans z⟩
 | .exc x, v, h, r => by
  cases r with
  | exc c s => exact .exc c (by rw [keepS_other (by rw [s]; rfl)]; exact s)
 | .obj _ _ _, v, h, r => by
  cases r with
  | obj c s l r => exact .obj c (by rw [keepS_other (by rw [s]; rfl)]; exact s) l (Reps.keep n _ h r)
 | .dct, v, h, r => by
  cases r with
  | dct s => exact .dct (by rw [keepS_other (by rw [s]; rfl)]; exact s)
 | .any, v, h, r => by cases r; exact .any
theorem Reps.keep (n : NoLists K) {S : List D} : ∀ (ds : List D) {vs : List V}, (∀ x ∈ D.subss ds, x ∈ S) → Reps K H vs ds → Reps K (keepS K S H) vs ds
 | [], _, h, r => by cases r; exact .nil
 | d :: ds, _, h, r => by
  cases r with
  | cons r s => exact .cons (Rep.keep n d (fun x hx => h x (List.mem_append_left _ hx)) r) (Reps.keep n ds (fun x hx => h x (List.mem_append_right _ hx)) s)
end
end
end DL
set_option maxHeartbeats 4000000
namespace DL
open PySem PySem.Spec PyProof.Rows L2
end DL
set_option maxHeartbeats 4000000
namespace DL
open PySem PySem.Spec PyProof.Rows L2
end DL
set_option maxHeartbeats 4000000
namespace DL
open PySem PySem.Spec PyProof.Rows L2
end DL
namespace DL
open PySem PySem.Spec PyProof.Rows L2
end DL
set_option maxHeartbeats 4000000
namespace DL
open PySem PySem.Spec PyProof.Rows L2
section
variable {K : PySem.W.Frag} {C : Ctx} {W H H' : Hp} {σ : L2.St} {ρ : Rho}
theorem RepTs.get {ds : List D} : ∀ {n : Nat} {d : D} {xs : List V} {as : List Addr}, RepTs K W H xs ds as → ds[n]? = some d → ∃ v bs, xs[n]? = some v ∧ RepT K W H v d bs ∧ ∀ b ∈ bs, b ∈ as := by
 induction ds with
 | nil => intro n d xs as r h; simp at h
 | cons d' ds ih =>
  intro n d xs as r h
  cases r with
  | cons r t =>
   cases n with
   | zero =>
    have e : d' = d := by simpa using h
    subst e
    exact ⟨_, _, rfl, r, fun b hb => List.mem_append_left _ hb⟩
   | succ n =>
    obtain ⟨v, bs, h1, h2, h3⟩ := ih t (by simpa using h)
    exact ⟨v, bs, by simpa using h1, h2, fun b hb => List.mem_append_right _ (h3 b hb)⟩
end
end DL
set_option maxHeartbeats 4000000
namespace DL
open PySem PySem.Spec PyProof.Rows L2
end DL
set_option maxHeartbeats 4000000
namespace DL
open PySem PySem.Spec PyProof.Rows L2
end DL
set_option maxHeartbeats 4000000
namespace DL
open PySem PySem.Spec PyProof.Rows L2
end DL
namespace DL
open PySem PySem.Spec PyProof.Rows L2
end DL
namespace DL
open PySem PySem.Spec PyProof.Rows L2
end DL
namespace DL
open PySem PySem.Spec PyProof.Rows L2
end DL
namespace DL
open PySem PySem.Spec PyProof.Rows L2
end DL
namespace DL
open PySem PySem.Spec PyProof.Rows L2
structure ClsT (K : PySem.W.Frag) (mg : Str → Option Value) (c : Str) (fs : List Str) (Cl : Addr) : Prop where
 gC : mg c = some (.ref Cl)
 nC : clsOf K c = some Cl
 cl : Cls K Cl
 na : ∀ f ∈ fs, NoAttr K Cl f
 ha : PySem.W.findIn K (.ref Cl) "__class__" = some (some (.builtin "object.__class__"))
 hn : PySem.W.specialIn K (.builtin "object.__class__") "__get__" = some (some (.builtin "getset_descriptor.__get__"))
 ht : PySem.W.takesIn K (.builtin "object.__class__") = some true
 hm : PySem.W.mroIn K Cl (.type "object") = some true
 kp : PySem.W.keepIn K (.ref Cl) = true
abbrev OwnT (K : PySem.W.Frag) (mg : Str → Option Value) (c : Str) (fs : List Str) : Prop := ∃ Cl, ClsT K mg c fs Cl
theorem na_nil {K : PySem.W.Frag} {Cl : Addr} : ∀ f ∈ ([] : List Str), NoAttr K Cl f := fun f h => by cases h
theorem na_cons {K : PySem.W.Frag} {Cl : Addr} {g : Str} {fs : List Str} (h : PySem.W.findIn K (.ref Cl) g = some none) (r : ∀ f ∈ fs, NoAttr K Cl f) : ∀ f ∈ g :: fs, NoAttr K Cl f := fun f m => by
 rcases List.mem_cons.mp m with z | z
 ·rw [z]; exact h
 ·exact r f z
theorem own_mk {K : PySem.W.Frag} {h : Heap} {mg : Str → Option Value} {c : Str} {fs : List Str} {Cl : Addr} (X : K.In h) (G : h.Ns mainGlobals mg) (a : PySem.W.nsIn K mainGlobals c = some (some (.ref Cl)))
  (pg : PySem.W.plainGet K Cl Str.empty = true) (hd : PySem.W.hasDictIn K Cl = true) (po : PySem.W.plainOver K Cl = true) (sa : PySem.W.findIn K (.ref Cl) "__setattr__" = some (some (.builtin "object.__setattr__")))
  (na : ∀ f ∈ fs, NoAttr K Cl f) (ha : PySem.W.findIn K (.ref Cl) "__class__" = some (some (.builtin "object.__class__"))) (hn : PySem.W.specialIn K (.builtin "object.__class__") "__get__" = some (some (.builtin "getset_descriptor.__get__")))
  (ht : PySem.W.takesIn K (.builtin "object.__class__") = some true) (hm : PySem.W.mroIn K Cl (.type "object") = some true) (kp : PySem.W.keepIn K (.ref Cl) = true) : OwnT K mg c fs :=
 ⟨Cl, PySem.W.mg_of X G a, by unfold clsOf; rw [a], ⟨pg, hd, po, sa⟩, na, ha, hn, ht, hm, kp⟩
structure InitAt (K : PySem.W.Frag) (c qual : Str) (st : Stmt) (ps : List Str) : Prop where
 ex : ∃ Cl f fd, clsOf K c = some Cl ∧ Mk K Cl f ∧ Fun K "__init__" qual st f fd ∧ Binds K fd ps []
theorem init_mk {K : PySem.W.Frag} {c qual : Str} {st : Stmt} {ps : List Str} {Cl f : Addr} {oc : Value} {od an : Option Addr} {osl : Array (Option Value)} {kV doc pm cdv ct : Value} (a : PySem.W.nsIn K mainGlobals c = some (some (.ref Cl)))
  (mk : PySem.W.makesIn K Cl = true) (kc : PySem.W.keepIn K (.ref Cl) = true) (i : PySem.W.findIn K (.ref Cl) "__init__" = some (some (.ref f))) (fn : PySem.W.isFn K (.ref f) = true)
  (l : K.lookup f = some ⟨oc, od, .func (PySem.W.fnOf "__init__" qual (defArgs st) (defBody st) (defScope st) .none kV doc pm an cdv ct), osl⟩) (c' : PySem.W.codeIn K cdv qual = true) (k : PySem.W.keepIn K (.ref f) = true)
  (b : ∀ (kV doc pm : Value) (an : Option Addr) (cdv ct : Value) (us : List Value), us.length = ps.length → bindArgs (PySem.W.fnOf "__init__" qual (defArgs st) (defBody st) (defScope st) .none kV doc pm an cdv ct) ⟨us, []⟩ = pure (ps.zip us)) : InitAt K c qual st ps :=
 ⟨Cl, f, _, by unfold clsOf; rw [a], ⟨mk, i, fn, kc⟩, fun_mk l c' k, (fun_mk l c' k).binds b⟩
structure MethAt (K : PySem.W.Frag) (c m qual : Str) (st : Stmt) (ps : List Str) : Prop where
 ex : ∃ Cl f fd, clsOf K c = some Cl ∧ Meth K Cl m f ∧ Fun K m qual st f fd ∧ Binds K fd ps []
theorem meth_mk {K : PySem.W.Frag} {c m qual : Str} {st : Stmt} {ps : List Str} {Cl f : Addr} {oc : Value} {od an : Option Addr} {osl : Array (Option Value)} {kV doc pm cdv ct : Value} (a : PySem.W.nsIn K mainGlobals c = some (some (.ref Cl)))
  (i : PySem.W.findIn K (.ref Cl) m = some (some (.ref f))) (fn : PySem.W.isFn K (.ref f) = true)
  (l : K.lookup f = some ⟨oc, od, .func (PySem.W.fnOf m qual (defArgs st) (defBody st) (defScope st) .none kV doc pm an cdv ct), osl⟩) (c' : PySem.W.codeIn K cdv qual = true) (k : PySem.W.keepIn K (.ref f) = true)
  (b : ∀ (kV doc pm : Value) (an : Option Addr) (cdv ct : Value) (us : List Value), us.length = ps.length → bindArgs (PySem.W.fnOf m qual (defArgs st) (defBody st) (defScope st) .none kV doc pm an cdv ct) ⟨us, []⟩ = pure (ps.zip us)) : MethAt K c m qual st ps :=
 ⟨Cl, f, _, by unfold clsOf; rw [a], ⟨i, fn, k⟩, fun_mk l c' k, (fun_mk l c' k).binds b⟩
theorem lookup_zip {f : Str} : ∀ {ns : List Str} {xs : List V} {k : Nat} {v : V}, ns.Nodup → ns[k]? = some f → xs[k]? = some v → (ns.zip xs).lookup f = some v
 | n :: ns, x :: xs, 0, v, nd, h1, h2 => by
  simp at h1 h2
  subst h1 h2
  simp [List.lookup]
 | n :: ns, x :: xs, k + 1, v, nd, h1, h2 => by
  have nd' := List.nodup_cons.mp nd
  have h1' : ns[k]? = some f := by simpa using h1
  have ne : ¬ f = n := fun z => nd'.1 (z ▸ List.mem_of_getElem? h1')
  have hb : (f == n) = false := beq_eq_false_iff_ne.mpr ne
  show List.lookup f ((n, x) :: ns.zip xs) = _
  rw [List.lookup_cons, hb]
  exact lookup_zip nd'.2 h1' (by simpa using h2)
 | [], _, k, _, _, h, _ => by simp at h
 | _ :: _, [], k, _, _, _, h => by simp at h
theorem lookup_none {f : Str} : ∀ {ns : List Str} {xs : List V}, f ∉ ns → (ns.zip xs).lookup f = none
 | [], _, _ => rfl
 | _ :: _, [], _ => rfl
 | n :: ns, x :: xs, h => by
  have hb : (f == n) = false := beq_eq_false_iff_ne.mpr fun z => h (z ▸ List.mem_cons_self)
  show List.lookup f ((n, x) :: ns.zip xs) = _
  rw [List.lookup_cons, hb]
  exact lookup_none fun z => h (List.mem_cons_of_mem _ z)
theorem putF_app {f : Str} {v : V} : ∀ {ns : List Str} {xs : List V}, f ∉ ns → ns.length = xs.length → putF f v (ns.zip xs) = (ns ++ [f]).zip (xs ++ [v])
 | [], [], _, _ => rfl
 | n :: ns, x :: xs, h, l => by
  show (if n = f then (n, v) :: ns.zip xs else (n, x) :: putF f v (ns.zip xs)) = _
  have nf : ¬ n = f := fun z => h (by rw [z]; exact List.mem_cons_self)
  rw [if_neg nf, putF_app (fun z => h (List.mem_cons_of_mem _ z)) (by simpa using l)]
  rfl
 | [], _ :: _, _, l => by cases l
 | _ :: _, [], _, l => by cases l
section
variable {X : Cx} {C : Ctx} {ρ : Rho} {e a o value : Expr} {es : List Expr} {m ma mo : MX} {d : D} {ds : List D} {pos p pos' apos : Pos} {sts : List Stmt}
structure MCal (P : Program) (w : World) (K : PySem.W.Frag) (mg : Str → Option Value) (base : Heap) (k : Nat) (c m : Str) (sp : Sp) : Prop where
 ex : ∃ Cl f fd ps, clsOf K c = some Cl ∧ Cls K Cl ∧ Meth K Cl m f ∧ Binds K fd ps [] ∧ FnOk P w K mg base (L2.CX P w) k f fd ps sp
theorem MCal.mono {P : Program} {w : World} {K : PySem.W.Frag} {mg : Str → Option Value} {base : Heap} {k k' : Nat} {c m : Str} {sp : Sp} (h : MCal P w K mg base k c m sp) (hk : k ≤ k') : MCal P w K mg base k' c m sp :=
 let ⟨Cl, f, fd, ps, h1, h2, h3, h4, h5⟩ := h.ex
 ⟨Cl, f, fd, ps, h1, h2, h3, h4, h5.mono hk⟩
end
end DL
namespace DL
open PySem PySem.Spec PyProof.Rows L2
def fshB (r : R RV) : Bool := match r with
 | .ok (.fr _) => true
 | _ => false
def fNil : Fr → List Bool := fun _ => []
def fCons (m : MX) (fl : Fr → List Bool) : Fr → List Bool := fun E => fshB (m E) :: fl E
def NewB (H : Hp) (fl : List Bool) (ys : List V) : Prop := ∀ (j : Nat) (v : V), ys[j]? = some v → fl[j]? = some true → ∃ a, v = .ref a ∧ H a = none
structure IniM (X : Cx) (sts : List Stmt) (ns : List Str) (ma : Fr → R (List D)) (fl : Fr → List Bool) : Prop where
 run : ∀ (C : Ctx) (ρ : Rho) (ds : List D), ma (frOf ρ) = .ok ds → ∀ (x Cl dx : Addr) (ms : List Str) (xs : List V) (σ : L2.St) (H : Hp) (D : Ends), x ∈ C.hid → SRel X.K C H σ ρ → σ[0]? = some (some (.ref x)) → H x = some (.ins Cl dx (ms.zip xs)) → ms.length = xs.length →
  Cls X.K Cl → (∀ f ∈ ns, NoAttr X.K Cl f) → (ms ++ ns).Nodup → (ms ++ ns).length ≤ 1000 →
  (∀ H' ys, SRel X.K C H' σ ρ → H' x = some (.ins Cl dx ((ms ++ ns).zip (xs ++ ys))) → ns.length = ys.length → Reps X.K (vis C (ows ρ) H') ys ds → Same (vis C (ows ρ) H) (vis C (ows ρ) H') → NewB H (fl (frOf ρ)) ys → D.nx σ H') → wpSs X sts D σ H
section
variable {X : Cx} {C : Ctx} {ρ : Rho} {e a o value : Expr} {es : List Expr} {m ma mo : MX} {mr : Fr → R (List D)} {d : D} {ds : List D} {pos p pos' apos : Pos} {sts : List Stmt} {f : Str} {ns : List Str}
theorem EM.new (h : EM X e m) (q : toD (m (frOf ρ)) = .ok d) (σ : L2.St) (H : Hp) (S : SRel X.K C H σ ρ) (Q : VK) (k : ∀ v H', Same H H' → Rep X.K (vis C (ows ρ) H') v d → (fshB (m (frOf ρ)) = true → ∃ a, v = .ref a ∧ H a = none) → Q v H') : wpE X e σ H Q := by
 have h' := h.run C ρ
 revert q h' k
 generalize m (frOf ρ) = r
 intro q k h'
 rcases r with (d' | ds | ds) | n | _ <;> cases q
 ·exact h' σ H S Q fun v H' s r => k v H' s r fun z => by cases z
 ·refine h' σ H S Q fun a xs H' n s l r => k _ H' s ?_ fun _ => ⟨a, rfl, n⟩
  obtain ⟨n0, no, nh⟩ := S.new n
  exact .lst (.inl (.inl (by rw [vis_at n0 no nh]; exact l))) (Reps.mono (vis_sub fun b hb => List.mem_cons_of_mem _ hb) _ r)
theorem ini_nil : IniM X [] [] aNil fNil := ⟨fun C ρ ds q x Cl dx ms xs σ H D mx S h0 hx hl c na nd n1000 k => by
 cases q
 exact wpSs_of pss_nil (k H [] S (by rw [List.append_nil, List.append_nil]; exact hx) rfl .nil (Same.refl _) (fun j v h => by simp at h))⟩
theorem ini_cons {x0 : Str} {fl : Fr → List Bool} (h : EM X e m) (hr : IniM X sts ns mr fl) (hN : X.N[0]? = some x0 := by rfl) (hv : Vis X.env.scope x0 := by first | exact Or.inl rfl | exact Or.inr (Or.inl rfl) | exact Or.inr (Or.inr rfl)) (hd : (x0 == ("__debug__" : Str)) = false := by decide) (hcd : (x0 == ("__classdict__" : Str)) = false := by decide)
  (hs : swapsWith e (some (.Attribute (.Name x0 p) f pos')) pos.line X.env = pure false := by rfl) : IniM X (.Assign [.Attribute (.Name x0 p) f pos'] e pos :: sts) (f :: ns) (aCons m mr) (fCons m fl) := ⟨fun C ρ ds q x Cl dx ms xs σ H D mx S h0 hx hl c na nd n1000 k => by
 obtain ⟨d, ds', q1, q2, rfl⟩ := consR_ok q
 refine wpSs_of (pss_cons (ps_fld (pe_var hN hv hd hcd) pe_wp hs) pss_wp) (h.new q1 σ H S _ fun v H1 s1 r1 nb => ?_)
 have S1 := S.same s1
 have h1 := s1 _ _ hx
 have nf : f ∉ ms := fun z => (List.nodup_append.mp nd).2.2 f z f List.mem_cons_self rfl
 have len : (ms.zip xs).length < 1000 := by
  rw [List.length_append, List.length_cons] at n1000
  rw [List.length_zip, ← hl, Nat.min_self]
  omega
 refine ⟨_, h0, x, Cl, dx, _, rfl, h1, c, na f List.mem_cons_self, len, ?_⟩
 rw [putF_app nf hl]
 have b1 : atT (H1 x) = false := by rw [h1]; rfl
 have S2 : SRel X.K C (upd H1 x (.ins Cl dx ((ms ++ [f]).zip (xs ++ [v])))) σ ρ := S1.updHid mx b1 rfl
 have ev : vis C (ows ρ) (upd H1 x (.ins Cl dx ((ms ++ [f]).zip (xs ++ [v])))) = vis C (ows ρ) H1 := vis_hid mx b1 rfl
 refine hr.run C ρ ds' q2 x Cl dx (ms ++ [f]) (xs ++ [v]) σ _ D mx S2 h0 upd_same (by simp [hl]) c (fun g hg => na g (List.mem_cons_of_mem _ hg)) (by rw [List.append_assoc]; exact nd) (by rw [List.append_assoc]; exact n1000) fun H' ys S' hx' hy ry sv nw => ?_
 rw [ev] at sv
 refine k H' (v :: ys) S' ?_ (by simp [hy]) (.cons (Rep.mono sv _ r1) ry) ((vis_same s1).trans sv) (fun j w hw hf => ?_)
 rotate_left
 ·cases j with
  | zero =>
   have e1 : v = w := by simpa using hw
   subst e1
   exact nb (by simpa [fCons] using hf)
  | succ j =>
   obtain ⟨a, e1, e2⟩ := nw j w (by simpa using hw) (by simpa [fCons] using hf)
   have nx : a ≠ x := fun z => by rw [z, upd_same] at e2; cases e2
   rw [upd_ne nx] at e2
   exact ⟨a, e1, s1.free e2⟩
 rw [List.append_assoc, List.append_assoc] at hx'
 exact hx'⟩
end
def spI (K : PySem.W.Frag) (n : Nat) (Cl : Addr) (ns : List Str) (f : List D → R (List D)) (fl : List D → List Bool) : Sp := fun vs H Q E => ∃ (G H1 : Hp) (x dx : Addr) (us : List V) (ds es : List D), vs = .ref x :: us ∧ H = upd (upd H1 dx (.own x)) x (.ins Cl dx []) ∧ H1 x = none ∧ H1 dx = none ∧ dx ≠ x ∧
 Same G H1 ∧ Reps K G us ds ∧ ds.length + 1 = n ∧ f ds = .ok es ∧ ∀ xs H', Same H1 H' → H' x = some (.ins Cl dx (ns.zip xs)) → ns.length = xs.length → Reps K (vis ⟨H1, G, [], []⟩ [x] H') xs es → NewB H1 (fl ds) xs → Q .non H'
structure KCal (P : Program) (w : World) (K : PySem.W.Frag) (mg : Str → Option Value) (base : Heap) (k : Nat) (c : Str) (ns : List Str) (n : Nat) (f : List D → R (List D)) (fl : List D → List Bool) : Prop where
 ex : ∃ Cl g fd ps, mg c = some (.ref Cl) ∧ clsOf K c = some Cl ∧ Mk K Cl g ∧ Binds K fd ps [] ∧ FnOk P w K mg base (L2.CX P w) k g fd ps (spI K n Cl ns f fl)
def iniF (n : Nat) (ma : Fr → R (List D)) (ds : List D) : R (List D) := ma (startF n (.any :: ds))
def iniB (n : Nat) (fl : Fr → List Bool) (ds : List D) : List Bool := fl (startF n (.any :: ds))
theorem kcal_body {P : Program} {w : World} {K : PySem.W.Frag} {mg : Str → Option Value} {base : Heap} {c qual : Str} {ns : List Str} {st : Stmt} {N ps : List Str} {k : Nat} {ma : Fr → R (List D)} {fl : Fr → List Bool} (M : InitAt K c qual st ps) (T : OwnT K mg c ns) (S : FnScope N ps (defScope st))
  (body : ∀ (cdv : Value) (A : Around) (outer : List Env) (s : Shared) (H : Hp) (E : XK) (f : Addr), Room k (A.deeper (envOfC qual (defScope st) s.heap.objs.size f cdv)) → IniM (cxOf (L2.CX P w) P w K mg base N qual (defScope st) f cdv A outer s H E) (defBody st) ns ma fl)
  (nd : ns.Nodup := by decide +kernel) (hn : ns.length ≤ 1000 := by decide) : KCal P w K mg base (k + 1) c ns ps.length (iniF N.length ma) (iniB N.length fl) := by
 obtain ⟨Cl, g, fd, h1, h2, F, hb⟩ := M.ex
 obtain ⟨Cl', T⟩ := T
 have e1 := h1.symm.trans T.nC
 cases e1
 refine ⟨Cl, g, fd, ps, T.gC, h1, h2, hb, F.okX S (fun vs H Q E h => ?_) fun cdv A outer s H vs Q E hr h => ?_⟩
 ·obtain ⟨G, H1, x, dx, us, ds, es, rfl, _, _, _, _, _, r, hl, _⟩ := h
  rw [List.length_cons, r.length, hl]
 ·obtain ⟨G, H1, x, dx, us, ds, es, rfl, rfl, nx, ndx, ne, g, r, hl, hf, q⟩ := h
  have S0 : SRel K ⟨H1, G, [], []⟩ H1 (L2.start N (V.ref x :: us)) (startR N (.any :: ds)) := srel_start (ps := ps) g (.cons .any r)
  have S1 := S0.same (same_upd (o := .own x) ndx)
  have nx1 : upd H1 dx (.own x) x = none := by rw [upd_ne (Ne.symm ne)]; exact nx
  have S2 := (S1.hide (o := .ins Cl dx []) nx1).1
  refine ⟨wpSs _ (defBody st), pss_wp, (body cdv A outer s _ E _ hr).run { (⟨H1, G, [], []⟩ : Ctx) with hid := [x] } _ es (by rw [frOf_start]; exact hf) x Cl dx [] [] _ _ _ (List.mem_singleton_self x) S2 ?_ upd_same rfl T.cl T.na nd hn fun H' ys S' hx' hy ry sv nw => ?_⟩
  ·unfold L2.start
   rfl
  ·refine q ys H' S'.hh (by simpa using hx') (by simpa using hy) (Reps.mono (fun b u hb => ?_) _ ry) (fun j v hv hf => ?_)
   rotate_left
   ·rw [frOf_start] at nw
    obtain ⟨a, e1, e2⟩ := nw j v hv hf
    have n1 : a ≠ x := fun z => by rw [z, upd_same] at e2; cases e2
    rw [upd_ne n1] at e2
    have n2 : a ≠ dx := fun z => by rw [z, upd_same] at e2; cases e2
    rw [upd_ne n2] at e2
    exact ⟨a, e1, e2⟩
   unfold vis at hb ⊢
   split at hb
   ·rename_i z; rw [if_pos z]; exact hb
   ·rename_i z
    rw [if_neg z]
    split at hb
    ·cases hb
    ·rename_i z2
     rw [if_neg]
     ·exact hb
     ·intro z3
      refine z2 ⟨?_, z3.2⟩
      rcases z3.1 with y | y
      ·exact .inr y
      ·cases y
end DL
namespace DL
open PySem PySem.Spec PyProof.Rows L2
def GK.base : GK → GK
 | .lent _ k => k
 | k => k
theorem GForm.plain {K : PySem.W.Frag} {le le' : List Addr} {a : Addr} {k : GK} {xs : List V} {o : HO} (p : k.plain = true) (h : GForm K le a k xs o) : GForm K le' a k xs o := by
 cases k with
 | dct ks => exact h
 | obj c ns => exact h
 | lst => exact h
 | lent j k => cases p
theorem GForm.base {K : PySem.W.Frag} {le : List Addr} {a : Addr} {k : GK} {xs : List V} {o : HO} (h : GForm K le a k xs o) : GForm K le a k.base xs o := by
 cases k with
 | lent j k => exact h.2
 | dct ks => exact h
 | obj c ns => exact h
 | lst => exact h
def lendAt (E : Fr) (i : Nat) : Option (GK × List D) := match nthS E i with
 | .ow ds => some (.lst, ds)
 | .og k ds => if k.base.plain = true then some (k.base, ds) else none
 | _ => none
def lends (E : Fr) : List Nat → Option Us
 | [] => some []
 | i :: is => match lendAt E i, lends E is with
  | some u, some us => some (u :: us)
  | _, _ => none
def lentAt (E : Fr) (j : Nat) : Option (GK × List D) := match nthS E j with
 | .og (.lent i k) ds => if i = j ∧ k.plain = true then some (k, ds) else none
 | _ => none
def lents (E : Fr) : Nat → Nat → Option Us
 | _, 0 => some []
 | j, n + 1 => match lentAt E j, lents E (j + 1) n with
  | some u, some us => some (u :: us)
  | _, _ => none
def newSl (s : Sl) (ds : List D) : Sl := match s with
 | .ow _ => .ow ds
 | .og k _ => .og k ds
 | s => s
def putU (E : Fr) : List Nat → Us → Fr
 | i :: is, u :: us => putU (setS E i (newSl (nthS E i) u.2)) is us
 | _, _ => E
def wo (H : Hp) (le : List Addr) : Hp := fun b => if b ∈ le then none else H b
theorem same_wo {H : Hp} {le : List Addr} : Same (wo H le) H := fun b x h => by
 unfold wo at h
 split at h
 ·cases h
 ·exact h
inductive RL where
 | ok (d : D) (us : Us)
 | er (n : Str) (us : Us)
 | bad
def notBadL : RL → Prop
 | .bad => False
 | _ => True
def spL (K : PySem.W.Frag) (L n : Nat) (f : Us → List D → RL) : Sp := fun vs H Q E => ∃ (G : Hp) (le : List Addr) (us : Us) (ws : List V) (as : List D),
 vs = le.map V.ref ++ ws ∧ le.Nodup ∧ le.length = L ∧ L + as.length = n ∧ LAt K G H le us ∧ Same G (wo H le) ∧ Reps K G ws as ∧ notBadL (f us as) ∧
 (∀ d us', f us as = .ok d us' → ∀ v H', Same (wo H le) H' → LAt K (vis ⟨wo H le, G, [], le⟩ le H') H' le us' → Rep K (vis ⟨wo H le, G, [], le⟩ le H') v d → Q v H') ∧
 (∀ n us', f us as = .er n us' → ∀ c H', clsOf K n = some c → Same (wo H le) H' → LAt K (vis ⟨wo H le, G, [], le⟩ le H') H' le us' → E (.ref c) none H')
theorem spL_len {K : PySem.W.Frag} {L n : Nat} {f : Us → List D → RL} : ∀ vs H Q E, spL K L n f vs H Q E → vs.length = n := fun vs H Q E ⟨G, le, us, ws, as, h1, _, h3, h4, _, _, h7, _⟩ => by
 rw [h1, List.length_append, List.length_map, h3, h7.length, h4]
def startL (n : Nat) (us : Us) (as : List D) : Fr := us.mapIdx (fun j u => Sl.og (.lent j u.1) u.2) ++ as.map Sl.im ++ List.replicate (n - us.length - as.length) .no
def startLR (n : Nat) (le : List Addr) (us : Us) (as : List D) : Rho := (us.mapIdx fun j u => En.og (le.getD j 0) (.lent j u.1) u.2) ++ as.map En.im ++ List.replicate (n - us.length - as.length) .no
theorem frOf_startL {n : Nat} {le : List Addr} {us : Us} {as : List D} : frOf (startLR n le us as) = startL n us as := by
 unfold frOf startLR startL
 rw [List.map_append, List.map_append, List.map_map, List.map_replicate]
 congr 2
 apply List.ext_getElem?
 intro i
 rw [List.getElem?_map, List.getElem?_mapIdx, List.getElem?_mapIdx]
 cases us[i]? <;> rfl
theorem startLR_len {n : Nat} {le : List Addr} {us : Us} {as : List D} (h : us.length + as.length ≤ n) : (startLR n le us as).length = n := by
 unfold startLR
 simp only [List.length_append, List.length_mapIdx, List.length_map, List.length_replicate]
 omega
theorem startLR_og {n : Nat} {le : List Addr} {us : Us} {as : List D} {i : Nat} {a : Addr} {k : GK} {ds : List D} (hl : us.length = le.length) (h : (startLR n le us as)[i]? = some (.og a k ds)) : ∃ k', k = .lent i k' ∧ le[i]? = some a ∧ us[i]? = some (k', ds) := by
 unfold startLR at h
 by_cases c : i < us.length
 ·rw [List.append_assoc, List.getElem?_append_left (by simpa using c), List.getElem?_mapIdx, List.getElem?_eq_getElem c] at h
  simp only [Option.map_some, Option.some.injEq, En.og.injEq] at h
  obtain ⟨h1, h2, h3⟩ := h
  refine ⟨us[i].1, h2.symm, ?_, ?_⟩
  ·rw [← h1, List.getD_eq_getElem?_getD, List.getElem?_eq_getElem (hl ▸ c)]
   rfl
  ·rw [List.getElem?_eq_getElem c, ← h3]
 ·rw [List.append_assoc, List.getElem?_append_right (by simpa using c)] at h
  rcases List.mem_append.mp (List.mem_of_getElem? h) with z | z
  ·obtain ⟨d, _, e⟩ := List.mem_map.mp z
   cases e
  ·cases (List.mem_replicate.mp z).2
theorem startLR_cases {n : Nat} {le : List Addr} {us : Us} {as : List D} {i : Nat} {e : En} (h : (startLR n le us as)[i]? = some e) : (∃ a k ds, e = .og a k ds) ∨ (∃ d, e = .im d ∧ us.length ≤ i ∧ as[i - us.length]? = some d) ∨ e = .no := by
 unfold startLR at h
 by_cases c : i < us.length
 ·rw [List.append_assoc, List.getElem?_append_left (by simpa using c), List.getElem?_mapIdx, List.getElem?_eq_getElem c] at h
  simp only [Option.map_some, Option.some.injEq] at h
  exact .inl ⟨_, _, _, h.symm⟩
 ·rw [List.append_assoc, List.getElem?_append_right (by simpa using c)] at h
  rw [List.length_mapIdx] at h
  by_cases c2 : i - us.length < as.length
  ·rw [List.getElem?_append_left (by simpa using c2), List.getElem?_map, List.getElem?_eq_getElem c2] at h
   simp only [Option.map_some, Option.some.injEq] at h
   exact .inr (.inl ⟨_, h.symm, Nat.le_of_not_lt c, List.getElem?_eq_getElem c2⟩)
  ·rw [List.getElem?_append_right (by simpa using c2)] at h
   exact .inr (.inr (List.mem_replicate.mp (List.mem_of_getElem? h)).2)
theorem ows_startLR {n : Nat} {le : List Addr} {us : Us} {as : List D} (hl : us.length = le.length) {a : Addr} : a ∈ ows (startLR n le us as) → a ∈ le := fun h => by
 obtain ⟨j, e, h1, h2⟩ := ows_at h
 rcases startLR_cases h1 with ⟨b, k, ds, rfl⟩ | ⟨d, rfl, _⟩ | rfl
 ·obtain ⟨k', _, q, _⟩ := startLR_og hl h1
  have e := List.mem_singleton.mp h2
  subst e
  exact List.mem_of_getElem? q
 ·cases h2
 ·cases h2
theorem srel_startL {K : PySem.W.Frag} {H G : Hp} {N : List Str} {le : List Addr} {us : Us} {ws : List V} {as : List D} (nd : le.Nodup) (l : LAt K G H le us) (g : Same G (wo H le)) (r : Reps K G ws as) (hn : us.length + as.length ≤ N.length) :
  SRel K ⟨wo H le, G, [], le⟩ H (L2.start N (le.map V.ref ++ ws)) (startLR N.length le us as) := by
 have rl := r.length
 have see : Same G (vis ⟨wo H le, G, [], le⟩ (ows (startLR N.length le us as)) H) := fun b x h => by
  have h0 := g _ _ h
  unfold vis
  rw [if_pos (by show (wo H le b).isSome = true; rw [h0]; rfl)]
  unfold Ctx.see
  split
  ·exact h0
  ·exact h
 have sig : ∀ (i : Nat) (v : V), (le.map V.ref ++ ws)[i]? = some v → (L2.start N (le.map V.ref ++ ws))[i]? = some (some v) := fun i v h => by
  unfold L2.start
  rw [List.getElem?_append_left (by have := (List.getElem?_eq_some_iff.mp h).1; simpa using this), List.getElem?_map, h]
  rfl
 refine ⟨?_, g, same_wo, ?_, fun a h => ?_, fun a _ h => (by cases h), fun i d h => ?_, fun i a ds h => ?_, fun i a ds h => ?_, fun i as' d h => ?_, fun i a k ds h => ?_⟩
 ·rw [startLR_len hn]
  unfold L2.start
  simp only [List.length_append, List.length_map, List.length_replicate]
  rw [l.1] at hn
  omega
 ·intro i j e e' a h1 h2 o1 o2
  have key : ∀ {i : Nat} {e : En}, (startLR N.length le us as)[i]? = some e → a ∈ e.own → le[i]? = some a := fun {i e} h o => by
   rcases startLR_cases h with ⟨b, k, ds, rfl⟩ | ⟨d, rfl, _⟩ | rfl
   ·obtain ⟨k', _, q, _⟩ := startLR_og l.1 h
    have e := List.mem_singleton.mp o
    subst e
    exact q
   ·cases o
   ·cases o
  have q1 := key h1 o1
  have q2 := key h2 o2
  have i1 := (List.getElem?_eq_some_iff.mp q1).1
  exact (List.getElem?_inj i1 nd).mp (q1.trans q2.symm)
 ·rcases h with h | h
  ·have m := ows_startLR l.1 h
   refine ⟨by show wo H le a = none; unfold wo; rw [if_pos m], ?_⟩
   obtain ⟨j, hj, e⟩ := List.getElem_of_mem m
   have hu : j < us.length := by rw [l.1]; exact hj
   obtain ⟨_, xs, o, q, _⟩ := l.2 j a us[j].1 us[j].2 (by rw [List.getElem?_eq_getElem hj, e]) (List.getElem?_eq_getElem hu)
   rw [q]
   exact fun z => nomatch z
  ·cases h
 ·rcases startLR_cases h with ⟨b, k, ds, e⟩ | ⟨d', e, hi, q⟩ | e
  ·cases e
  ·cases e
   obtain ⟨v, hv, rv⟩ := r.get q
   exact ⟨v, sig i v (by rw [List.getElem?_append_right (by rw [List.length_map, ← l.1]; exact hi), List.length_map, ← l.1]; exact hv), Rep.mono see _ rv⟩
  ·cases e
 ·rcases startLR_cases h with ⟨b, k, ds, e⟩ | ⟨d', e, hi, q⟩ | e <;> cases e
 ·rcases startLR_cases h with ⟨b, k, ds, e⟩ | ⟨d', e, hi, q⟩ | e <;> cases e
 ·rcases startLR_cases h with ⟨b, k, ds, e⟩ | ⟨d', e, hi, q⟩ | e <;> cases e
 ·obtain ⟨k', rfl, q1, q2⟩ := startLR_og l.1 h
  obtain ⟨p, xs, o, h1, h2, h3⟩ := l.2 i a k' ds q1 q2
  refine ⟨sig i _ ?_, xs, o, h1, ⟨q1, h2.plain p⟩, Reps.mono see _ h3⟩
  have i1 := (List.getElem?_eq_some_iff.mp q1).1
  rw [List.getElem?_append_left (by simpa using i1), List.getElem?_map, q1]
  rfl
theorem lentAt_some {ρ : Rho} {j : Nat} {u : GK × List D} (h : lentAt (frOf ρ) j = some u) : ∃ a, ρ[j]? = some (.og a (.lent j u.1) u.2) ∧ u.1.plain = true := by
 unfold lentAt at h
 split at h
 ·rename_i i k ds q
  split at h
  ·rename_i z
   cases h
   obtain ⟨rfl, hp⟩ := z
   rw [frOf_nth] at q
   cases e : ρ[i]? with
   | none => rw [e] at q; cases q
   | some x => rw [e] at q; cases x <;> first | (cases q; exact ⟨_, rfl, hp⟩) | cases q
  ·cases h
 ·cases h
theorem lents_get {E : Fr} : ∀ {n j : Nat} {us : Us}, lents E j n = some us → us.length = n ∧ ∀ i u, us[i]? = some u → lentAt E (j + i) = some u
 | 0, j, us, h => by cases h; exact ⟨rfl, fun i u z => by simp at z⟩
 | n + 1, j, us, h => by
  unfold lents at h
  split at h
  ·rename_i u us' q1 q2
   cases h
   obtain ⟨l, g⟩ := lents_get q2
   refine ⟨by simp [l], fun i v z => ?_⟩
   cases i with
   | zero => simp at z; subst z; exact q1
   | succ i =>
    have := g i v (by simpa using z)
    rwa [show j + 1 + i = j + (i + 1) by omega] at this
  ·cases h
theorem lents_back {K : PySem.W.Frag} {C : Ctx} {H : Hp} {σ : L2.St} {ρ : Rho} {us : Us} (S : SRel K C H σ ρ) (h : lents (frOf ρ) 0 C.le.length = some us) : LAt K (vis C C.le H) H C.le us ∧ Same (vis C (ows ρ) H) (vis C C.le H) := by
 obtain ⟨l, g⟩ := lents_get h
 have key : ∀ (j : Nat) (a : Addr) (k : GK) (ds : List D), C.le[j]? = some a → us[j]? = some (k, ds) → ρ[j]? = some (.og a (.lent j k) ds) ∧ k.plain = true := fun j a k ds h1 h2 => by
  have q := g j _ h2
  rw [Nat.zero_add] at q
  obtain ⟨b, q1, q2⟩ := lentAt_some q
  obtain ⟨_, xs, o, _, z, _⟩ := S.og _ _ _ _ q1
  have e := z.1
  rw [h1] at e
  cases e
  exact ⟨q1, q2⟩
 have sm : Same (vis C (ows ρ) H) (vis C C.le H) := vis_sub fun b hb => by
  obtain ⟨j, hj, e⟩ := List.getElem_of_mem hb
  have hu : j < us.length := by rw [l]; exact hj
  obtain ⟨q, _⟩ := key j b us[j].1 us[j].2 (by rw [List.getElem?_eq_getElem hj, e]) (List.getElem?_eq_getElem hu)
  exact mem_ows q rfl
 refine ⟨⟨l, fun j a k ds h1 h2 => ?_⟩, sm⟩
 obtain ⟨q, hp⟩ := key j a k ds h1 h2
 obtain ⟨_, xs, o, z1, z2, z3⟩ := S.og _ _ _ _ q
 exact ⟨hp, xs, o, z1, z2.2.plain hp, Reps.mono sm _ z3⟩
end DL
set_option maxHeartbeats 1000000
namespace DL
open PySem PySem.Spec PyProof.Rows L2
def newEn (e : En) (ds : List D) : En := match e with
 | .ow a _ => .ow a ds
 | .og a k _ => .og a k ds
 | e => e
theorem newEn_own (e : En) (ds : List D) : (newEn e ds).own = e.own := by cases e <;> rfl
theorem newEn_sl (e : En) (ds : List D) : (newEn e ds).sl = newSl e.sl ds := by cases e <;> rfl
def put1 (ρ : Rho) (i : Nat) (ds : List D) : Rho := match ρ[i]? with
 | some e => ρ.set i (newEn e ds)
 | none => ρ
def putUR (ρ : Rho) : List Nat → Us → Rho
 | i :: is, u :: us => putUR (put1 ρ i u.2) is us
 | _, _ => ρ
theorem frOf_put1 (ρ : Rho) (i : Nat) (ds : List D) : frOf (put1 ρ i ds) = setS (frOf ρ) i (newSl (nthS (frOf ρ) i) ds) := by
 unfold put1
 cases h : ρ[i]? with
 | some e => rw [frOf_set, frOf_nth, h, newEn_sl]; rfl
 | none =>
  rw [setS_eq, List.set_eq_of_length_le]
  unfold frOf
  rw [List.length_map]
  exact List.getElem?_eq_none_iff.mp h
theorem frOf_putUR : ∀ (is : List Nat) (us : Us) (ρ : Rho), frOf (putUR ρ is us) = putU (frOf ρ) is us
 | [], _, _ => by unfold putUR putU; rfl
 | _ :: _, [], _ => by unfold putUR putU; rfl
 | i :: is, u :: us, ρ => by unfold putUR putU; rw [frOf_putUR is us, frOf_put1]
theorem put1_get (ρ : Rho) (i j : Nat) (ds : List D) : (put1 ρ i ds)[j]? = if j = i then ρ[j]?.map (newEn · ds) else ρ[j]? := by
 unfold put1
 cases h : ρ[i]? with
 | some e =>
  by_cases c : j = i
  ·subst c
   rw [if_pos rfl, List.getElem?_set_self (List.getElem?_eq_some_iff.mp h).1, h]
   rfl
  ·rw [if_neg c]
   exact List.getElem?_set_ne (Ne.symm c)
 | none =>
  by_cases c : j = i
  ·subst c
   rw [if_pos rfl, h]
   rfl
  ·rw [if_neg c]
theorem putUR_out : ∀ (is : List Nat) (us : Us) (ρ : Rho) (j : Nat), j ∉ is → (putUR ρ is us)[j]? = ρ[j]?
 | [], _, _, _, _ => by unfold putUR; rfl
 | _ :: _, [], _, _, _ => by unfold putUR; rfl
 | i :: is, u :: us, ρ, j, h => by
  unfold putUR
  rw [putUR_out is us _ j (fun z => h (List.mem_cons_of_mem _ z)), put1_get, if_neg]
  intro z
  subst z
  exact h List.mem_cons_self
theorem putUR_in : ∀ (is : List Nat) (us : Us) (ρ : Rho) (j i : Nat) (u : GK × List D), is.Nodup → is[j]? = some i → us[j]? = some u → (putUR ρ is us)[i]? = ρ[i]?.map (newEn · u.2)
 | i0 :: is, u0 :: us, ρ, 0, i, u, nd, h1, h2 => by
  simp at h1 h2
  subst h1 h2
  unfold putUR
  rw [putUR_out is us _ i0 (List.nodup_cons.mp nd).1, put1_get, if_pos rfl]
 | i0 :: is, u0 :: us, ρ, j + 1, i, u, nd, h1, h2 => by
  have h1' : is[j]? = some i := by simpa using h1
  unfold putUR
  rw [putUR_in is us _ j i u (List.nodup_cons.mp nd).2 h1' (by simpa using h2), put1_get, if_neg]
  intro z
  subst z
  exact (List.nodup_cons.mp nd).1 (List.mem_of_getElem? h1')
 | [], _, _, j, i, u, _, h1, _ => by simp at h1
 | _ :: _, [], _, j, i, u, _, _, h2 => by simp at h2
theorem putUR_own : ∀ (is : List Nat) (us : Us) (ρ : Rho), (putUR ρ is us).map En.own = ρ.map En.own
 | [], _, _ => by unfold putUR; rfl
 | _ :: _, [], _ => by unfold putUR; rfl
 | i :: is, u :: us, ρ => by
  unfold putUR
  rw [putUR_own is us]
  apply List.ext_getElem?
  intro j
  rw [List.getElem?_map, List.getElem?_map, put1_get]
  by_cases c : j = i
  ·rw [if_pos c]
   cases ρ[j]? with
   | none => rfl
   | some e => show some _ = some _; rw [newEn_own]
  ·rw [if_neg c]
theorem ows_putUR (is : List Nat) (us : Us) (ρ : Rho) : ows (putUR ρ is us) = ows ρ := by
 unfold ows
 rw [List.flatMap_def, List.flatMap_def, putUR_own]
theorem lend_own {K : PySem.W.Frag} {C : Ctx} {H : Hp} {σ : L2.St} {ρ : Rho} {i : Nat} {u : GK × List D} (S : SRel K C H σ ρ) (h : lendAt (frOf ρ) i = some u) : u.1.plain = true ∧ ∃ e a, ρ[i]? = some e ∧ e.own = [a] ∧ σ[i]? = some (some (V.ref a)) ∧ atT (H a) = false ∧
  (∃ xs o, H a = some o ∧ GForm K [] a u.1 xs o ∧ Reps K (vis C (ows ρ) H) xs u.2) ∧ ((e = .ow a u.2 ∧ u.1 = .lst) ∨ (∃ k, e = .og a k u.2 ∧ k.base = u.1)) := by
 unfold lendAt at h
 split at h
 ·rename_i ds q
  cases h
  obtain ⟨a, hr⟩ := nth_ow q
  obtain ⟨h1, xs, h2, h3⟩ := S.ow i a ds hr
  exact ⟨rfl, _, a, hr, rfl, h1, by rw [h2]; rfl, ⟨xs, _, h2, rfl, h3⟩, .inl ⟨rfl, rfl⟩⟩
 ·rename_i k ds q
  split at h
  ·rename_i p
   cases h
   rw [frOf_nth] at q
   cases e : ρ[i]? with
   | none => rw [e] at q; cases q
   | some x =>
    rw [e] at q
    cases x with
    | og a k' ds' =>
     cases q
     obtain ⟨h1, xs, o, h2, h3, h4⟩ := S.og i a k ds e
     exact ⟨p, _, a, rfl, rfl, h1, by rw [h2]; exact h3.notT (fun z hz => atT_some hz), ⟨xs, o, h2, h3.base.plain p, h4⟩, .inr ⟨k, rfl, rfl⟩⟩
    | _ => cases q
  ·cases h
 ·cases h
theorem lends_get {E : Fr} : ∀ {is : List Nat} {us : Us}, lends E is = some us → us.length = is.length ∧ ∀ (j i : Nat) (u : GK × List D), is[j]? = some i → us[j]? = some u → lendAt E i = some u
 | [], us, h => by cases h; exact ⟨rfl, fun j i u z => by simp at z⟩
 | i0 :: is, us, h => by
  unfold lends at h
  split at h
  ·rename_i u us' q1 q2
   cases h
   obtain ⟨l, g⟩ := lends_get q2
   refine ⟨by simp [l], fun j i v z1 z2 => ?_⟩
   cases j with
   | zero => simp at z1 z2; subst z1 z2; exact q1
   | succ j => exact g j i v (by simpa using z1) (by simpa using z2)
  ·cases h
theorem lends_at {K : PySem.W.Frag} {C : Ctx} {H : Hp} {σ : L2.St} {ρ : Rho} {is : List Nat} {us : Us} (S : SRel K C H σ ρ) (nd : is.Nodup) (h : lends (frOf ρ) is = some us) : ∃ le : List Addr, le.length = is.length ∧ le.Nodup ∧ LAt K (vis C (ows ρ) H) H le us ∧ (∀ b ∈ le, b ∈ ows ρ ∧ atT (H b) = false) ∧
  (∀ (j i : Nat) (a : Addr), is[j]? = some i → le[j]? = some a → σ[i]? = some (some (V.ref a)) ∧ ∃ e, ρ[i]? = some e ∧ e.own = [a]) := by
 obtain ⟨l, g⟩ := lends_get h
 have key : ∀ j : Nat, j < is.length → ∃ (i : Nat) (u : GK × List D) (e : En) (a : Addr), is[j]? = some i ∧ us[j]? = some u ∧ ρ[i]? = some e ∧ e.own = [a] ∧ σ[i]? = some (some (V.ref a)) ∧ atT (H a) = false ∧ u.1.plain = true ∧ (∃ xs o, H a = some o ∧ GForm K [] a u.1 xs o ∧ Reps K (vis C (ows ρ) H) xs u.2) := fun j hj => by
  have hj2 : j < us.length := by rw [l]; exact hj
  obtain ⟨p, e, a, h1, h2, h3, h4, h5, _⟩ := lend_own S (g j _ _ (List.getElem?_eq_getElem hj) (List.getElem?_eq_getElem hj2))
  exact ⟨_, _, e, a, List.getElem?_eq_getElem hj, List.getElem?_eq_getElem hj2, h1, h2, h3, h4, p, h5⟩
 let f : Nat → Addr := fun i => match ρ[i]? with
  | some e => e.own.headD 0
  | none => 0
 have fe : ∀ {i : Nat} {e : En} {a : Addr}, ρ[i]? = some e → e.own = [a] → f i = a := fun {i e a} h1 h2 => by
  show (match ρ[i]? with | some e => e.own.headD 0 | none => 0) = a
  rw [h1]
  show e.own.headD 0 = a
  rw [h2]
  rfl
 have get : ∀ (j i : Nat) (a : Addr), is[j]? = some i → (is.map f)[j]? = some a → ∃ u e, us[j]? = some u ∧ ρ[i]? = some e ∧ e.own = [a] ∧ σ[i]? = some (some (V.ref a)) ∧ atT (H a) = false ∧ u.1.plain = true ∧ (∃ xs o, H a = some o ∧ GForm K [] a u.1 xs o ∧ Reps K (vis C (ows ρ) H) xs u.2) := fun j i a h1 h2 => by
  obtain ⟨i', u, e, a', z1, z2, z3, z4, z5, z6, z7, z8⟩ := key j (List.getElem?_eq_some_iff.mp h1).1
  rw [h1] at z1
  cases z1
  rw [List.getElem?_map, h1] at h2
  have h2' : f i = a := Option.some.inj h2
  rw [fe z3 z4] at h2'
  subst h2'
  exact ⟨u, e, z2, z3, z4, z5, z6, z7, z8⟩
 have inj : ∀ (j : Nat) (a : Addr), (is.map f)[j]? = some a → ∃ i, is[j]? = some i := fun j a h => by
  rw [List.getElem?_map] at h
  cases q : is[j]? with
  | none => rw [q] at h; cases h
  | some i => exact ⟨i, rfl⟩
 refine ⟨is.map f, by simp, ?_, ⟨by simp [l], fun j a k ds h1 h2 => ?_⟩, fun b hb => ?_, fun j i a h1 h2 => ?_⟩
 ·refine List.pairwise_iff_getElem.mpr fun j1 j2 hj1' hl2' lt z => ?_
  have hj1 : j1 < is.length := by simpa using hj1'
  have hl2 : j2 < is.length := by simpa using hl2'
  obtain ⟨i1, u1, e1, a1, x1, _, x3, x4, _⟩ := key j1 hj1
  obtain ⟨i2, u2, e2, a2, y1, _, y3, y4, _⟩ := key j2 hl2
  rw [List.getElem_map, List.getElem_map] at z
  have z' : f i1 = f i2 := by
   rw [List.getElem?_eq_getElem hj1] at x1
   rw [List.getElem?_eq_getElem hl2] at y1
   rw [← Option.some.inj x1, ← Option.some.inj y1]
   exact z
  rw [fe x3 x4, fe y3 y4] at z'
  have e := S.nd i1 i2 e1 e2 a1 x3 y3 (by rw [x4]; exact List.mem_singleton_self _) (by rw [y4, z']; exact List.mem_singleton_self _)
  subst e
  exact absurd ((List.getElem?_inj hj1 nd).mp (x1.trans y1.symm)) (by omega)
 ·obtain ⟨i, hi⟩ := inj j a h1
  obtain ⟨u, e, z1, _, _, _, _, z6, z7⟩ := get j i a hi h1
  rw [h2] at z1
  cases z1
  exact ⟨z6, z7⟩
 ·obtain ⟨j, hj, e⟩ := List.getElem_of_mem hb
  have h1 : (is.map f)[j]? = some b := by rw [List.getElem?_eq_getElem hj, e]
  obtain ⟨i, hi⟩ := inj j b h1
  obtain ⟨u, e, _, z2, z3, _, z5, _⟩ := get j i b hi h1
  exact ⟨mem_ows z2 z3, z5⟩
 ·obtain ⟨u, e, _, z2, z3, z4, _⟩ := get j i a h1 h2
  exact ⟨z4, e, z2, z3⟩
section
variable {K : PySem.W.Frag} {C : Ctx} {H H' : Hp} {σ : L2.St} {ρ : Rho} {le : List Addr}
theorem wo_in {b : Addr} (h : b ∈ le) : wo H le b = none := by unfold wo; rw [if_pos h]
theorem wo_out {b : Addr} (h : b ∉ le) : wo H le b = H b := by unfold wo; rw [if_neg h]
theorem vis_calleeL (S : SRel K C H σ ρ) (hle : ∀ b ∈ le, b ∈ ows ρ) (sw : Same (wo H le) H') (ha : ∀ b ∈ le, atT (H' b) = false) : Same (vis ⟨wo H le, vis C (ows ρ) H, [], le⟩ le H') (vis C (ows ρ) H') := fun b x h => by
 have hh' : Same C.H0 H' := fun b x q => by
  have nb : b ∉ le := fun z => by rw [(S.fr b (.inl (hle b z))).1] at q; cases q
  exact sw _ _ (by rw [wo_out nb]; exact S.hh _ _ q)
 by_cases c : (wo H le b).isSome = true
 ·have nb : b ∉ le := fun z => by rw [wo_in z] at c; cases c
  obtain ⟨y, hy⟩ := Option.isSome_iff_exists.mp c
  have h' := sw _ _ hy
  rw [wo_out nb] at hy
  unfold vis at h
  rw [if_pos c] at h
  unfold Ctx.see at h
  split at h
  ·rename_i ht
   have h0 : wo H le b = some x := h
   have ht0 : atT (wo H le b) = true := ht
   rw [wo_out nb] at h0 ht0
   rw [hy] at h0 ht0
   cases h0
   obtain ⟨xs, e⟩ := atT_some ht0
   cases e
   exact vis_at_tup hh' h' ht0
  ·have h0 : vis C (ows ρ) H b = some x := h
   have hx : H b = some x := S.visIn _ _ h0
   rw [hy] at hx
   cases hx
   unfold vis at h0 ⊢
   split
   ·rename_i z; rw [if_pos z] at h0; exact h0
   ·rename_i z
    rw [if_neg z] at h0
    split at h0
    ·cases h0
    ·rename_i z2
     rw [if_neg]
     ·exact h'
     ·rw [h']
      rw [hy] at z2
      exact z2
 ·unfold vis at h
  rw [if_neg c] at h
  split at h
  ·cases h
  ·rename_i z
   have nb : b ∉ le := fun m => z ⟨.inl m, ha b m⟩
   have n1 : H b = none := by
    rw [wo_out nb] at c
    cases q : H b with
    | none => rfl
    | some y => rw [q] at c; exact absurd rfl c
   rw [vis_at (S.hh.free n1) (fun m => (S.fr b (.inl m)).2 n1) (fun m => (S.fr b (.inr m)).2 n1)]
   exact h
theorem SRel.relent (S : SRel K C H σ ρ) {is : List Nat} {us us' : Us} (nd : is.Nodup) (hl : lends (frOf ρ) is = some us) (hk : us'.map (·.1) = us.map (·.1)) (hlen : le.length = is.length) (hle : ∀ b ∈ le, b ∈ ows ρ ∧ atT (H b) = false)
  (hat : ∀ (j i : Nat) (a : Addr), is[j]? = some i → le[j]? = some a → σ[i]? = some (some (V.ref a)) ∧ ∃ e, ρ[i]? = some e ∧ e.own = [a]) (sw : Same (wo H le) H') (la : LAt K (vis C (ows ρ) H') H' le us') :
  SRel K C H' σ (putUR ρ is us') ∧ Same (vis C (ows ρ) H) (vis C (ows (putUR ρ is us')) H') := by
 obtain ⟨l, g⟩ := lends_get hl
 have eo : ows (putUR ρ is us') = ows ρ := ows_putUR is us' ρ
 have hh' : Same C.H0 H' := fun b x q => by
  have nb : b ∉ le := fun z => by rw [(S.fr b (.inl (hle b z).1)).1] at q; cases q
  exact sw _ _ (by rw [wo_out nb]; exact S.hh _ _ q)
 have out : ∀ {b : Addr} {x : HO}, b ∉ le → H b = some x → H' b = some x := fun {b x} n q => sw _ _ (by rw [wo_out n]; exact q)
 have sm : Same (vis C (ows ρ) H) (vis C (ows ρ) H') := fun b x hb => by
  have hH := S.visIn _ _ hb
  unfold vis at hb ⊢
  split
  ·rename_i z; rw [if_pos z] at hb; exact hb
  ·rename_i z
   rw [if_neg z] at hb
   split at hb
   ·cases hb
   ·rename_i z2
    have nb : b ∉ le := fun m => z2 ⟨.inl (hle b m).1, (hle b m).2⟩
    have h' := out nb hH
    rw [if_neg]
    ·exact h'
    ·rw [h']
     rw [hH] at z2
     exact z2
 have ul : us'.length = is.length := by
  have := congrArg List.length hk
  rw [List.length_map, List.length_map] at this
  rw [this, l]
 have kin : ∀ {j i : Nat}, is[j]? = some i → ∃ (u u' : GK × List D) (a : Addr) (e : En), us[j]? = some u ∧ us'[j]? = some u' ∧ u'.1 = u.1 ∧ le[j]? = some a ∧ ρ[i]? = some e ∧ e.own = [a] ∧ σ[i]? = some (some (V.ref a)) ∧ ((e = .ow a u.2 ∧ u.1 = .lst) ∨ ∃ k, e = .og a k u.2 ∧ k.base = u.1) ∧ u'.1.plain = true ∧ (∃ xs o, H' a = some o ∧ GForm K [] a u'.1 xs o ∧ Reps K (vis C (ows ρ) H') xs u'.2) := fun {j i} h => by
  have hj := (List.getElem?_eq_some_iff.mp h).1
  have h1 := List.getElem?_eq_getElem (l := us) (i := j) (by rw [l]; exact hj)
  have h2 := List.getElem?_eq_getElem (l := us') (i := j) (by rw [ul]; exact hj)
  have h3 := List.getElem?_eq_getElem (l := le) (i := j) (by rw [hlen]; exact hj)
  obtain ⟨p, e, a, q1, q2, q3, q4, q5, q6⟩ := lend_own S (g j _ _ h h1)
  obtain ⟨s1, e', s2, s3⟩ := hat j i _ h h3
  rw [q3] at s1
  cases s1
  have w := la.2 j _ _ _ h3 h2
  refine ⟨_, _, _, e, h1, h2, ?_, h3, q1, q2, q3, q6, w⟩
  have e1 : (us'.map (·.1))[j]? = (us.map (·.1))[j]? := by rw [hk]
  rw [List.getElem?_map, List.getElem?_map, h1, h2] at e1
  exact Option.some.inj e1
 have nle : ∀ {i : Nat} {e : En} {a : Addr}, i ∉ is → ρ[i]? = some e → a ∈ e.own → a ∉ le := fun {i e a} n h m z => by
  obtain ⟨j, hj, q⟩ := List.getElem_of_mem z
  have hj2 : j < is.length := by rw [← hlen]; exact hj
  obtain ⟨_, e', s2, s3⟩ := hat j _ a (List.getElem?_eq_getElem hj2) (by rw [List.getElem?_eq_getElem hj, q])
  have := S.nd _ _ _ _ a h s2 m (by rw [s3]; exact List.mem_singleton_self a)
  subst this
  exact n (List.getElem_mem hj2)
 have cas : ∀ {i : Nat} {e : En}, (putUR ρ is us')[i]? = some e → (i ∉ is ∧ ρ[i]? = some e) ∨ ∃ (j : Nat) (u u' : GK × List D) (a : Addr) (e0 : En), e = newEn e0 u'.2 ∧ us'[j]? = some u' ∧ u'.1 = u.1 ∧ ρ[i]? = some e0 ∧ e0.own = [a] ∧ σ[i]? = some (some (V.ref a)) ∧ ((e0 = .ow a u.2 ∧ u.1 = .lst) ∨ ∃ k, e0 = .og a k u.2 ∧ k.base = u.1) ∧ u'.1.plain = true ∧ (∃ xs o, H' a = some o ∧ GForm K [] a u'.1 xs o ∧ Reps K (vis C (ows ρ) H') xs u'.2) := fun {i e} h => by
  by_cases c : i ∈ is
  ·obtain ⟨j, hj, q⟩ := List.getElem_of_mem c
   have hi : is[j]? = some i := by rw [List.getElem?_eq_getElem hj, q]
   obtain ⟨u, u', a, e0, h1, h2, h3, h4, h5, h6, h7, h8, h9⟩ := kin hi
   rw [putUR_in is us' ρ j i u' nd hi h2, h5] at h
   exact .inr ⟨j, u, u', a, e0, (Option.some.inj h).symm, h2, h3, h5, h6, h7, h8, h9⟩
  ·rw [putUR_out is us' ρ i c] at h
   exact .inl ⟨c, h⟩
 have nn : ∀ {b : Addr}, b ∉ le → H b ≠ none → H' b ≠ none := fun {b} n h z => by
  cases q : H b with
  | none => exact h q
  | some x => rw [out n q] at z; cases z
 rw [eo]
 refine ⟨⟨?_, S.gh, hh', ?_, fun b h => ?_, by rw [eo]; exact S.dj, fun i d h => ?_, fun i a ds h => ?_, fun i a ds h => ?_, fun i as d h => ?_, fun i a k ds h => ?_⟩, sm⟩
 ·have := congrArg List.length (putUR_own is us' ρ)
  rw [List.length_map, List.length_map] at this
  rw [this]
  exact S.len
 ·have old : ∀ {i : Nat} {e : En}, (putUR ρ is us')[i]? = some e → ∃ e0, ρ[i]? = some e0 ∧ e.own = e0.own := fun {i e} h => by
   rcases cas h with ⟨_, h⟩ | ⟨_, _, u', _, e0, rfl, _, _, h, _⟩
   ·exact ⟨e, h, rfl⟩
   ·exact ⟨e0, h, newEn_own _ _⟩
  intro i j e e' a h1 h2 o1 o2
  obtain ⟨x, q1, q2⟩ := old h1
  obtain ⟨y, q3, q4⟩ := old h2
  exact S.nd i j x y a q1 q3 (by rw [← q2]; exact o1) (by rw [← q4]; exact o2)
 ·rw [eo] at h
  refine ⟨(S.fr b h).1, ?_⟩
  by_cases m : b ∈ le
  ·obtain ⟨j, hj, q⟩ := List.getElem_of_mem m
   have h2 := List.getElem?_eq_getElem (l := us') (i := j) (by rw [ul, ← hlen]; exact hj)
   obtain ⟨_, xs, o, w, _⟩ := la.2 j b _ _ (by rw [List.getElem?_eq_getElem hj, q]) h2
   rw [w]
   exact fun z => nomatch z
  ·exact nn m (S.fr b h).2
 ·rcases cas h with ⟨_, h⟩ | ⟨_, u, u', a, e0, e1, _, _, _, _, _, h8, _⟩
  ·obtain ⟨v, h1, h2⟩ := S.im i d h
   exact ⟨v, h1, by rw [eo]; exact Rep.mono sm _ h2⟩
  ·rcases h8 with ⟨rfl, _⟩ | ⟨k, rfl, _⟩ <;> cases e1
 ·rcases cas h with ⟨n, h⟩ | ⟨_, u, u', a', e0, e1, _, h3, _, _, h7, h8, _, xs, o, w1, w2, w3⟩
  ·obtain ⟨h1, xs, h2, h3⟩ := S.ow i a ds h
   exact ⟨h1, xs, out (nle n h (List.mem_singleton_self a)) h2, by rw [eo]; exact Reps.mono sm _ h3⟩
  ·rcases h8 with ⟨rfl, h8⟩ | ⟨k, rfl, _⟩
   ·cases e1
    rw [h3, h8] at w2
    have w2' : o = .lst xs := w2
    subst w2'
    exact ⟨h7, xs, w1, by rw [eo]; exact w3⟩
   ·cases e1
 ·rcases cas h with ⟨n, h⟩ | ⟨_, u, u', a', e0, e1, _, _, _, _, _, h8, _⟩
  ·obtain ⟨h1, xs, h2, h3⟩ := S.od i a ds h
   exact ⟨h1, xs, out (nle n h (List.mem_singleton_self a)) h2, by rw [eo]; exact h3.mono sm⟩
  ·rcases h8 with ⟨rfl, _⟩ | ⟨k, rfl, _⟩ <;> cases e1
 ·rcases cas h with ⟨n, h⟩ | ⟨_, u, u', a', e0, e1, _, _, _, _, _, h8, _⟩
  ·obtain ⟨v, h1, h2⟩ := S.ot i as d h
   rw [eo]
   refine ⟨v, h1, RepT.mono sm _ (fun a ha => ?_) h2⟩
   obtain ⟨xs, q⟩ := RepT.isl _ h2 a ha
   rw [q]
   exact (out (nle n h ha) q).symm
  ·rcases h8 with ⟨rfl, _⟩ | ⟨k, rfl, _⟩ <;> cases e1
 ·rcases cas h with ⟨n, h⟩ | ⟨_, u, u', a', e0, e1, _, h3, h5, _, h7, h8, pl, xs, o, w1, w2, w3⟩
  ·obtain ⟨h1, xs, o, h2, h3, h4⟩ := S.og i a k ds h
   exact ⟨h1, xs, o, out (nle n h (List.mem_singleton_self a)) h2, h3, by rw [eo]; exact Reps.mono sm _ h4⟩
  ·rcases h8 with ⟨rfl, _⟩ | ⟨k', rfl, h8⟩
   ·cases e1
   ·cases e1
    obtain ⟨_, ys, o', _, z, _⟩ := S.og i _ _ _ h5
    refine ⟨h7, xs, o, w1, ?_, by rw [eo]; exact w3⟩
    rw [h3, ← h8] at w2 pl
    cases k with
    | lent j kb => exact ⟨z.1, w2.plain pl⟩
    | dct ks => exact w2.plain pl
    | obj c ns => exact w2.plain pl
    | lst => exact w2.plain pl
end
end DL
set_option maxHeartbeats 1000000
namespace DL
open PySem PySem.Spec PyProof.Rows L2
section
variable {X : Cx} {C : Ctx} {ρ : Rho} {e a b c o : Expr} {es rest : List Expr} {pos p apos : Pos} {k : Nat} {f : Addr} {fd : FuncData} {ps : List Str} {sp : Sp} {W : WX} {x m : Str} {σ : L2.St} {H : Hp} {Q : VK}
theorem run_fnW {pins : List (Addr × Obj)} {s : Shared} {us : List Value} {vs : List V} (F : FnOk X.prog X.w X.K X.mg X.base (L2.CX X.prog X.w) k f fd ps sp) (hr : Room k X.A) (hb : Binds X.K fd ps []) (tk : Takes X W) (I : Inv X pins σ H s) (r : Vals vs us)
  (h : sp vs H Q fun cls d H2 => W cls d σ H2) : wpAny (model X.prog X.w) X.A (call (.ref f) us) (EP X pins σ Q) X.xe s := by
 have hl : (us ++ []).length = ps.length := by rw [List.append_nil, ← r.length]; exact F.len _ _ _ _ h
 have r' : Vals vs (us ++ []) := by rw [List.append_nil]; exact r
 refine wpAny_call (codeAny_mono (F.run X.A X.stack s H ⟨us, []⟩ (us ++ []) vs Q _ hr I.env0 (hb s us I.kIn hl) r' h) fun t s' ht => ?_)
 cases t with
 | error z => exact tk _ _ (XE.of_call I (fun _ _ _ w => w) ht)
 | ok fl =>
  cases fl with
  | ret u => exact I.after ht
  | next => exact ht.elim
  | brk => exact ht.elim
  | cont => exact ht.elim
theorem wp_callW (F : CalX X.prog X.w X.K X.mg X.base k x ps sp) (hr : Room k X.A) (tk : Takes X W) (h : wpA X (e :: es) σ H fun vs H1 => sp vs H1 Q fun cls d H2 => W cls d σ H2) (hg : Gl X x := by rfl) (hdb : (x == ("__debug__" : Str)) = false := by decide)
  (he : starEach (e :: es) X.env = (false, eval e X.env) :: starEach es X.env := by exact se_of rfl) (hpl : (backTo pos (starEach es X.env)).any (·.1) = false := by rfl) : wpE X (.Call (.Name x p) (e :: es) [] pos) σ H Q := fun pins s J => by
 obtain ⟨f, fd, hm, hk, hb, F⟩ := F.ex
 refine wpAny_Call_Name_kw (ld_glob J hg hm ?_ hdb)
 refine PySem.W.callWith_K (h₀ := X.base) J.ok.mod.kin hk (thn (h pos pins s J) fun us s1 ⟨vs, H1, J1, rv, q⟩ => ⟨J1.kIn, ?_⟩) he hpl
 exact run_fnW F hr hb tk J1 rv q
def MethW (X : Cx) (Cl : Addr) (m : Str) (sp : Sp) (W : WX) (σ : L2.St) (Q : VK) (t : (List V → Hp → Prop) → Hp → Prop) (v : V) (H1 : Hp) : Prop := ∃ a dx fs, v = .ref a ∧ H1 a = some (.ins Cl dx fs) ∧ fs.lookup m = none ∧ t (fun vs H2 => sp (v :: vs) H2 Q fun cls d H3 => W cls d σ H3) H1
theorem wp_methW {Cl : Addr} {pl : Sem Bool} (c : Cls X.K Cl) (hm : Meth X.K Cl m f) (F : FnOk X.prog X.w X.K X.mg X.base (L2.CX X.prog X.w) k f fd ps sp) (hr : Room k X.A) (hb : Binds X.K fd ps []) (tk : Takes X W)
  (h : wpE X o σ H (MethW X Cl m sp W σ Q fun R H1 => wpA X (e :: es) σ H1 R)) (hst : starEach (e :: es) X.env = (false, eval e X.env) :: starEach es X.env := by exact se_of rfl) (hpl : (backTo pos (starEach es X.env)).any (·.1) = false := by rfl)
  (ht : eval (.Call (.Attribute o m apos) (e :: es) [] pos) X.env = (do
   let ov ← eval o X.env
   standAt apos.atName
   let (f, first) ← holding [ov] (getMethod ov m pl)
   callWith pos f first (backTo pos (starEach (e :: es) X.env)) (backToKw pos (keywordEach [] X.env))) := by rfl) : wpE X (.Call (.Attribute o m apos) (e :: es) [] pos) σ H Q := fun pins s I => by
 refine PySem.W.methodCall_KW (pl := pl) (thn (h pins s I) fun u s1 ⟨x, H1, I1, rx, a, dx, fs, ex, ea, l, q⟩ => ?_) ht
 subst ex
 obtain rfl : u = Value.ref a := rx
 refine getmeth_ok I1 ea c hm l ?_
 refine PySem.W.callWith_K (first := [.ref a]) (h₀ := X.base) I.ok.mod.kin hm.kp (thn (q pos pins s1 I1) fun us s2 ⟨vs, H2, I2, r, q2⟩ => ⟨I2.kIn, ?_⟩) hst hpl
 exact run_fnW (us := .ref a :: us) (vs := .ref a :: vs) F hr hb tk I2 (.cons rfl r) q2
theorem wp_methW0 {Cl : Addr} {pl : Sem Bool} (c : Cls X.K Cl) (hm : Meth X.K Cl m f) (F : FnOk X.prog X.w X.K X.mg X.base (L2.CX X.prog X.w) k f fd ps sp) (hr : Room k X.A) (hb : Binds X.K fd ps []) (tk : Takes X W)
  (h : wpE X o σ H (MethW X Cl m sp W σ Q fun R H1 => R [] H1))
  (ht : eval (.Call (.Attribute o m apos) [] [] pos) X.env = (do
   let ov ← eval o X.env
   standAt apos.atName
   let (f, first) ← holding [ov] (getMethod ov m pl)
   callWith pos f first (backTo pos (starEach [] X.env)) (backToKw pos (keywordEach [] X.env))) := by rfl) : wpE X (.Call (.Attribute o m apos) [] [] pos) σ H Q := fun pins s I => by
 refine PySem.W.methodCall_KW (pl := pl) (thn (h pins s I) fun u s1 ⟨x, H1, I1, rx, a, dx, fs, ex, ea, l, q⟩ => ?_) ht
 subst ex
 obtain rfl : u = Value.ref a := rx
 refine getmeth_ok I1 ea c hm l ?_
 exact PySem.W.callWith_K0 (first := [.ref a]) I1.kIn hm.kp (run_fnW (us := [.ref a]) (vs := [.ref a]) F hr hb tk I1 (.cons rfl .nil) q)
end
inductive RU where
 | ok (d : D) (E : Fr)
 | er (n : Str) (E : Fr)
 | bad
abbrev MU := Fr → RU
structure Aft (K : PySem.W.Frag) (C : Ctx) (V0 : Hp) (σ : L2.St) (E : Fr) (H' : Hp) (ρ' : Rho) : Prop where
 fr : frOf ρ' = E
 S : SRel K C H' σ ρ'
 v : Same V0 (vis C (ows ρ') H')
def UOk (X : Cx) (C : Ctx) (ρ : Rho) (e : Expr) : RU → Prop
 | .ok d E => ∀ σ H, SRel X.K C H σ ρ → ∀ Q : VK, (∀ v H' ρ', Aft X.K C (vis C (ows ρ) H) σ E H' ρ' → Rep X.K (vis C (ows ρ') H') v d → Q v H') → wpE X e σ H Q
 | .er n E => ∀ σ H, SRel X.K C H σ ρ → ∀ W : WX, Takes X W → (∀ c H' ρ', clsOf X.K n = some c → Aft X.K C (vis C (ows ρ) H) σ E H' ρ' → W (.ref c) none σ H') → ∀ Q : VK, wpE X e σ H Q
 | .bad => True
structure EU (X : Cx) (e : Expr) (m : MU) : Prop where
 run : ∀ C ρ, UOk X C ρ e (m (frOf ρ))
inductive RAr where
 | ok (ds : List D) (E : Fr)
 | er (n : Str) (E : Fr)
 | bad
def AOk (X : Cx) (C : Ctx) (ρ : Rho) (es : List Expr) : RAr → Prop
 | .ok ds E => ds.length = es.length ∧ ∀ σ H, SRel X.K C H σ ρ → ∀ Q : List V → Hp → Prop, (∀ vs H' ρ', Aft X.K C (vis C (ows ρ) H) σ E H' ρ' → Reps X.K (vis C (ows ρ') H') vs ds → Q vs H') → wpA X es σ H Q
 | .er n E => ∀ σ H, SRel X.K C H σ ρ → ∀ W : WX, Takes X W → (∀ c H' ρ', clsOf X.K n = some c → Aft X.K C (vis C (ows ρ) H) σ E H' ρ' → W (.ref c) none σ H') → ∀ Q : List V → Hp → Prop, wpA X es σ H Q
 | .bad => True
structure AU (X : Cx) (es : List Expr) (m : Fr → RAr) : Prop where
 run : ∀ C ρ, AOk X C ρ es (m (frOf ρ))
section
variable {X : Cx} {C : Ctx} {ρ : Rho} {e a b c o : Expr} {es rest : List Expr} {pos p apos : Pos} {k : Nat} {x : Str} {ps : List Str} {m : MX} {mu : MU} {σ : L2.St} {H : Hp} {V0 : Hp} {E : Fr}
theorem Aft.refl (S : SRel X.K C H σ ρ) : Aft X.K C (vis C (ows ρ) H) σ (frOf ρ) H ρ := ⟨rfl, S, Same.refl _⟩
theorem Aft.trans {ρ' : Rho} {H1 H' : Hp} {ρ1 : Rho} {E1 : Fr} (h : Aft X.K C V0 σ E1 H1 ρ1) (g : Aft X.K C (vis C (ows ρ1) H1) σ E H' ρ') : Aft X.K C V0 σ E H' ρ' := ⟨g.fr, g.S, h.v.trans g.v⟩
theorem Aft.same {H1 : Hp} {ρ1 : Rho} (h : Aft X.K C V0 σ E H ρ1) (s : Same H H1) : Aft X.K C V0 σ E H1 ρ1 := ⟨h.fr, h.S.same s, h.v.trans (vis_same s)⟩
def uOf (m : MX) : MU := fun E => match m E with
 | .ok (.im d) => .ok d E
 | .ok (.fr ds) => .ok (.lst ds) E
 | .er n => .er n E
 | _ => .bad
theorem eu_of (h : EM X e m) : EU X e (uOf m) := ⟨fun C ρ => by
 have h' := h.run C ρ
 unfold uOf
 revert h'
 generalize m (frOf ρ) = r
 intro h'
 rcases r with (d | ds | ds) | n | _
 ·exact fun σ H S Q q => h' σ H S Q fun v H' s r => q v H' ρ ((Aft.refl S).same s) r
 ·exact fun σ H S Q q => EF.ee h' σ H S Q fun v H' s r => q v H' ρ ((Aft.refl S).same s) r
 ·trivial
 ·exact fun σ H S W tk hW Q => h' σ H S W tk (fun c H' k s => hW c H' ρ k ((Aft.refl S).same s)) Q
 ·trivial⟩
def aOf (ma : Fr → R (List D)) : Fr → RAr := fun E => match ma E with
 | .ok ds => .ok ds E
 | _ => .bad
theorem au_of {ma : Fr → R (List D)} (h : AM X es ma) : AU X es (aOf ma) := ⟨fun C ρ => by
 unfold aOf
 cases q : ma (frOf ρ) with
 | ok ds =>
  obtain ⟨h1, h2⟩ := h C ρ ds q
  exact ⟨h2, fun σ H S Q k => h1 σ H S Q fun vs H' s r => k vs H' ρ ((Aft.refl S).same s) r⟩
 | er n => trivial
 | bad => trivial⟩
def auCons (m : MU) (ma : Fr → RAr) : Fr → RAr := fun E => match m E with
 | .ok d E1 => (match ma E1 with
  | .ok ds E2 => .ok (d :: ds) E2
  | r => r)
 | .er n E1 => .er n E1
 | .bad => .bad
def valAt (σ : L2.St) (i : Nat) : V := (σ[i]?.join).getD .non
theorem valAt_of {i : Nat} {v : V} (h : σ[i]? = some (some v)) : valAt σ i = v := by unfold valAt; rw [h]; rfl
structure LN (X : Cx) (es : List Expr) (is : List Nat) (rest : List Expr) : Prop where
 run : ∀ (σ : L2.St) (H : Hp) (Q : List V → Hp → Prop), (∀ i ∈ is, ∃ v, σ[i]? = some (some v)) → wpA X rest σ H (fun ws H1 => Q (is.map (valAt σ) ++ ws) H1) → wpA X es σ H Q
 len : es.length = is.length + rest.length
theorem ln_nil : LN X rest [] rest := ⟨fun σ H Q _ h => h, by simp⟩
theorem ln_var (i : Nat) {is : List Nat} {x : Str} (g : LN X es is rest) (hN : X.N[i]? = some x := by rfl) (hv : Vis X.env.scope x := by first | exact Or.inl rfl | exact Or.inr (Or.inl rfl) | exact Or.inr (Or.inr rfl))
  (hd : (x == ("__debug__" : Str)) = false := by decide) (hcd : (x == ("__classdict__" : Str)) = false := by decide) (hs : starEach (.Name x p :: es) X.env = (false, eval (.Name x p) X.env) :: starEach es X.env := by exact se_of rfl) : LN X (.Name x p :: es) (i :: is) rest := ⟨fun σ H Q hv' h => by
 obtain ⟨v, e⟩ := hv' i List.mem_cons_self
 refine wpA_of (pa_cons (pe_var hN hv hd hcd) pa_wp hs) ⟨v, e, ?_⟩
 rw [← valAt_of e]
 exact g.run σ H _ (fun j hj => hv' j (List.mem_cons_of_mem _ hj)) h, by
 rw [List.length_cons, List.length_cons, g.len]
 omega⟩
open Classical in
noncomputable def backU (E : Fr) (is : List Nat) (us : Us) : RL → RU
 | .ok d us' => if us'.map (·.1) = us.map (·.1) then .ok d (putU E is us') else .bad
 | .er n us' => if us'.map (·.1) = us.map (·.1) then .er n (putU E is us') else .bad
 | .bad => .bad
theorem lends_vals {is : List Nat} {us : Us} (S : SRel X.K C H σ ρ) (nd : is.Nodup) (hl : lends (frOf ρ) is = some us) : ∀ i ∈ is, ∃ v, σ[i]? = some (some v) := fun i hi => by
 obtain ⟨l, g⟩ := lends_get hl
 obtain ⟨j, hj, e⟩ := List.getElem_of_mem hi
 have h1 : is[j]? = some i := by rw [List.getElem?_eq_getElem hj, e]
 obtain ⟨_, _, a, _, _, z, _⟩ := lend_own S (g j i _ h1 (List.getElem?_eq_getElem (by rw [l]; exact hj)))
 exact ⟨_, z⟩
theorem lent_ok {n : Nat} {is : List Nat} {us : Us} {as : List D} {f : Us → List D → RL} {ws : List V} {Q : VK} {Ex : XK} (S : SRel X.K C H σ ρ) (nd : is.Nodup) (hl : lends (frOf ρ) is = some us) (r : Reps X.K (vis C (ows ρ) H) ws as) (hn : is.length + as.length = n)
  (hq : ∀ d E', backU (frOf ρ) is us (f us as) = .ok d E' → ∀ v H' ρ', Aft X.K C (vis C (ows ρ) H) σ E' H' ρ' → Rep X.K (vis C (ows ρ') H') v d → Q v H')
  (he : ∀ z E', backU (frOf ρ) is us (f us as) = .er z E' → ∀ c H' ρ', clsOf X.K z = some c → Aft X.K C (vis C (ows ρ) H) σ E' H' ρ' → Ex (.ref c) none H') (nb : backU (frOf ρ) is us (f us as) ≠ .bad) :
  spL X.K is.length n f (is.map (valAt σ) ++ ws) H Q Ex := by
 obtain ⟨le, l1, l2, la, l3, l4⟩ := lends_at S nd hl
 have fin : ∀ (us' : Us) (H' : Hp), us'.map (·.1) = us.map (·.1) → Same (wo H le) H' → LAt X.K (vis ⟨wo H le, vis C (ows ρ) H, [], le⟩ le H') H' le us' → Same (vis ⟨wo H le, vis C (ows ρ) H, [], le⟩ le H') (vis C (ows ρ) H') ∧ Aft X.K C (vis C (ows ρ) H) σ (putU (frOf ρ) is us') H' (putUR ρ is us') := fun us' H' hk sw lz => by
  have at0 : ∀ b ∈ le, atT (H' b) = false := fun b hb => by
   obtain ⟨j, hj, q⟩ := List.getElem_of_mem hb
   obtain ⟨_, xs, o, w1, w2, _⟩ := lz.2 j b _ _ (by rw [List.getElem?_eq_getElem hj, q]) (List.getElem?_eq_getElem (by rw [lz.1]; exact hj))
   rw [w1]
   exact w2.notT fun z hz => atT_some hz
  have vc := vis_calleeL S (fun b hb => (l3 b hb).1) sw at0
  obtain ⟨S2, v2⟩ := S.relent nd hl hk l1 l3 l4 sw ⟨lz.1, fun j a k ds h1 h2 => by
   obtain ⟨p, xs, o, w1, w2, w3⟩ := lz.2 j a k ds h1 h2
   exact ⟨p, xs, o, w1, w2, Reps.mono vc _ w3⟩⟩
  exact ⟨vc, frOf_putUR is us' ρ, S2, v2⟩
 have vals : is.map (valAt σ) = le.map V.ref := by
  apply List.ext_getElem?
  intro j
  rw [List.getElem?_map, List.getElem?_map]
  by_cases hj : j < is.length
  ·have h1 := List.getElem?_eq_getElem hj
   have h2 := List.getElem?_eq_getElem (l := le) (i := j) (by rw [l1]; exact hj)
   rw [h1, h2]
   show some _ = some _
   rw [valAt_of (l4 j _ _ h1 h2).1]
  ·rw [List.getElem?_eq_none (by omega), List.getElem?_eq_none (by omega)]
   rfl
 refine ⟨vis C (ows ρ) H, le, us, ws, as, by rw [vals], l2, l1, hn, la, fun b x hb => ?_, r, ?_, fun d us' q v H' sw lz rv => ?_, fun z us' q c H' hc sw lz => ?_⟩
 ·have hH := S.visIn _ _ hb
  rw [wo_out]
  ·exact hH
  ·intro m
   have n0 := (S.fr b (.inl (l3 b m).1)).1
   unfold vis at hb
   rw [n0, if_neg (by simp), if_pos ⟨.inl (l3 b m).1, (l3 b m).2⟩] at hb
   cases hb
 ·cases q : f us as with
  | ok d us' => trivial
  | er z us' => trivial
  | bad => rw [q] at nb; exact (nb rfl).elim
 ·by_cases hk : us'.map (·.1) = us.map (·.1)
  ·obtain ⟨vc, A⟩ := fin us' H' hk sw lz
   exact hq d _ (by rw [q]; unfold backU; exact if_pos hk) v H' _ A (Rep.mono (vc.trans (by rw [ows_putUR]; exact Same.refl _)) _ rv)
  ·exact (nb (by rw [q]; unfold backU; exact if_neg hk)).elim
 ·by_cases hk : us'.map (·.1) = us.map (·.1)
  ·obtain ⟨vc, A⟩ := fin us' H' hk sw lz
   exact he z _ (by rw [q]; unfold backU; exact if_pos hk) c H' _ hc A
  ·exact (nb (by rw [q]; unfold backU; exact if_neg hk)).elim
noncomputable def uCall (f : Us → List D → RL) (is : List Nat) (ma : Fr → RAr) : MU := fun E => match lends E is with
 | some _ => (match ma E with
  | .ok as E1 => (match lends E1 is with
   | some us => backU E1 is us (f us as)
   | none => .bad)
  | .er n E1 => .er n E1
  | .bad => .bad)
 | none => .bad
theorem eu_call {L n : Nat} {is : List Nat} {f : Us → List D → RL} {ma : Fr → RAr} (F : CalX X.prog X.w X.K X.mg X.base k x ps (spL X.K L n f)) (hr : Room k X.A) (l : LN X (e :: es) is rest) (g : AU X rest ma) (hL : is.length = L := by rfl) (hn : (e :: es).length = n := by rfl) (nd : is.Nodup := by decide) (hg : Gl X x := by rfl) (hdb : (x == ("__debug__" : Str)) = false := by decide)
  (he : starEach (e :: es) X.env = (false, eval e X.env) :: starEach es X.env := by exact se_of rfl) (hpl : (backTo pos (starEach es X.env)).any (·.1) = false := by rfl) : EU X (.Call (.Name x p) (e :: es) [] pos) (uCall f is ma) := ⟨fun C ρ => by
 subst hL
 unfold uCall
 split
 ·rename_i us0 hl0
  have g0 := g.run C ρ
  revert g0
  generalize ma (frOf ρ) = r
  intro g0
  cases r with
  | ok as E1 =>
   dsimp only
   cases hl : lends E1 is with
   | none => trivial
   | some us =>
    dsimp only
    have ln : is.length + as.length = n := by rw [← hn, l.len, g0.1]
    have key : ∀ {σ : L2.St} {H : Hp} {Q : VK} {W : WX}, SRel X.K C H σ ρ → Takes X W → backU E1 is us (f us as) ≠ .bad → (∀ d E', backU E1 is us (f us as) = .ok d E' → ∀ v H' ρ', Aft X.K C (vis C (ows ρ) H) σ E' H' ρ' → Rep X.K (vis C (ows ρ') H') v d → Q v H') →
      (∀ z E', backU E1 is us (f us as) = .er z E' → ∀ c H' ρ', clsOf X.K z = some c → Aft X.K C (vis C (ows ρ) H) σ E' H' ρ' → W (.ref c) none σ H') → wpE X (.Call (.Name x p) (e :: es) [] pos) σ H Q := fun {σ H Q W} S tk nb kq ke => by
     refine wp_callW F hr tk (l.run σ H _ (lends_vals S nd hl0) (g0.2 σ H S _ fun ws H1 ρ1 A1 r1 => ?_)) hg hdb he hpl
     have e1 := A1.fr
     exact lent_ok A1.S nd (by rw [e1]; exact hl) r1 ln (fun d E' q2 v H' ρ' A r => kq d E' (by rw [← e1]; exact q2) v H' ρ' (A1.trans A) r) (fun z E' q2 c H' ρ' hc A => ke z E' (by rw [← e1]; exact q2) c H' ρ' hc (A1.trans A)) (by rw [e1]; exact nb)
    cases q : backU E1 is us (f us as) with
    | ok d E' =>
     exact fun σ H S Q kk => key S takes0 (by rw [q]; exact fun z => by cases z) (fun d' E2 q2 => by
      rw [q] at q2
      cases q2
      exact kk) (fun z E2 q2 => by rw [q] at q2; cases q2)
    | er z E' =>
     exact fun σ H S W tk hW Q => key S tk (by rw [q]; exact fun z => by cases z) (fun d' E2 q2 => by rw [q] at q2; cases q2) (fun z' E2 q2 => by
      rw [q] at q2
      cases q2
      exact hW)
    | bad => trivial
  | er z E1 => exact fun σ H S W tk hW Q => wp_callW F hr tk (l.run σ H _ (lends_vals S nd hl0) (g0 σ H S W tk hW _)) hg hdb he hpl
  | bad => trivial
 ·trivial⟩
structure MCalL (P : Program) (w : World) (K : PySem.W.Frag) (mg : Str → Option Value) (base : Heap) (k : Nat) (c m : Str) (n : Nat) (f : Us → List D → RL) : Prop where
 ex : ∃ Cl g fd ps, clsOf K c = some Cl ∧ Cls K Cl ∧ Meth K Cl m g ∧ Binds K fd ps [] ∧ FnOk P w K mg base (L2.CX P w) k g fd ps (spL K 1 n f)
noncomputable def uMethGo (f : Us → List D → RL) (c m : Str) (i : Nat) (E : Fr) : R (List D) → RU
 | .ok as => (match lendAt E i with
  | some (.obj c' ns, ds) => if c' = c ∧ ns.contains m = false then backU E [i] [(.obj c' ns, ds)] (f [(.obj c' ns, ds)] as) else .bad
  | _ => .bad)
 | _ => .bad
noncomputable def uMeth (f : Us → List D → RL) (c m : Str) (i : Nat) (ma : Fr → R (List D)) : MU := fun E => uMethGo f c m i E (ma E)
theorem eu_methGo {n : Nat} {c m : Str} {f : Us → List D → RL} {i : Nat} {ex : Expr} {l : Nat} (F : MCalL X.prog X.w X.K X.mg X.base k c m n f) (r : R (List D)) (hl : ∀ as, r = .ok as → 1 + as.length = n)
  (run : ∀ (Cl g : Addr) (fd : FuncData) (ps : List Str) (W : WX) (σ : L2.St) (H : Hp) (Q : VK) (as : List D), r = .ok as → Cls X.K Cl → Meth X.K Cl m g → FnOk X.prog X.w X.K X.mg X.base (L2.CX X.prog X.w) k g fd ps (spL X.K 1 n f) → Binds X.K fd ps [] → Takes X W → SRel X.K C H σ ρ → ∀ (a : Addr) (dx : Addr) (fs : List (Str × V)), σ[i]? = some (some (.ref a)) → H a = some (.ins Cl dx fs) → fs.lookup m = none →
   (∀ ws H1, Same H H1 → Reps X.K (vis C (ows ρ) H1) ws as → spL X.K 1 n f (.ref a :: ws) H1 Q fun cls d H3 => W cls d σ H3) → wpE X ex σ H Q) : UOk X C ρ ex (uMethGo f c m i (frOf ρ) r) := by
 unfold uMethGo
 cases r with
 | ok as =>
  dsimp only
  split
  ·rename_i c' ns ds q
   split
   ·rename_i cc
    obtain ⟨rfl, nm⟩ := cc
    obtain ⟨Cl, g, fd, ps, h1, h2, h3, h4, h5⟩ := F.ex
    have hl1 : lends (frOf ρ) [i] = some [(.obj c' ns, ds)] := by unfold lends lends; rw [q]
    have key : ∀ {σ : L2.St} {H : Hp} {Q : VK} {W : WX}, SRel X.K C H σ ρ → Takes X W → backU (frOf ρ) [i] [(.obj c' ns, ds)] (f [(.obj c' ns, ds)] as) ≠ .bad → (∀ d E', backU (frOf ρ) [i] [(.obj c' ns, ds)] (f [(.obj c' ns, ds)] as) = .ok d E' → ∀ v H' ρ', Aft X.K C (vis C (ows ρ) H) σ E' H' ρ' → Rep X.K (vis C (ows ρ') H') v d → Q v H') →
      (∀ z E', backU (frOf ρ) [i] [(.obj c' ns, ds)] (f [(.obj c' ns, ds)] as) = .er z E' → ∀ c H' ρ', clsOf X.K z = some c → Aft X.K C (vis C (ows ρ) H) σ E' H' ρ' → W (.ref c) none σ H') → wpE X ex σ H Q := fun {σ H Q W} S tk nb kq ke => by
     obtain ⟨_, e0, a, _, _, z1, _, ⟨xs, o, z2, z3, z4⟩, _⟩ := lend_own S q
     obtain ⟨hlen, Cl', dx, z5, rfl⟩ := z3
     rw [h1] at z5
     cases z5
     refine run Cl g fd ps W σ H Q as rfl h2 h3 h5 h4 tk S a dx _ z1 z2 (lookup_none (fun z => by rw [List.contains_iff_mem.mpr z] at nm; cases nm)) fun ws H1 s1 r1 => ?_
     have S1 := S.same s1
     have sp := lent_ok (X := X) (n := n) (f := f) (Q := Q) (Ex := fun cls d H3 => W cls d σ H3) S1 (List.pairwise_singleton _ _) hl1 r1 (hl as rfl) (fun d E' q2 v H' ρ' A r => kq d E' q2 v H' ρ' (((Aft.refl S).same s1).trans A) r) (fun z E' q2 c H' ρ' hc A => ke z E' q2 c H' ρ' hc (((Aft.refl S).same s1).trans A)) nb
     have e1 : [i].map (valAt σ) = [V.ref a] := by show [valAt σ i] = _; rw [valAt_of z1]
     rw [e1] at sp
     exact sp
    cases q : backU (frOf ρ) [i] [(.obj c' ns, ds)] (f [(.obj c' ns, ds)] as) with
    | ok d E' =>
     exact fun σ H S Q kk => key S takes0 (by rw [q]; exact fun z => by cases z) (fun d' E2 q2 => by
      rw [q] at q2
      cases q2
      exact kk) (fun z E2 q2 => by rw [q] at q2; cases q2)
    | er z E' =>
     exact fun σ H S W tk hW Q => key S tk (by rw [q]; exact fun z => by cases z) (fun d' E2 q2 => by rw [q] at q2; cases q2) (fun z' E2 q2 => by
      rw [q] at q2
      cases q2
      exact hW)
    | bad => trivial
   ·trivial
  ·trivial
 | er n => trivial
 | bad => trivial
theorem eu_meth {n : Nat} {c m y : Str} {f : Us → List D → RL} {mr : Fr → R (List D)} {pl : Sem Bool} (i : Nat) (F : MCalL X.prog X.w X.K X.mg X.base k c m n f) (hr : Room k X.A) (h : AM X (e :: es) mr) (hn : (e :: es).length + 1 = n := by rfl)
  (hN : X.N[i]? = some y := by rfl) (hv : Vis X.env.scope y := by first | exact Or.inl rfl | exact Or.inr (Or.inl rfl) | exact Or.inr (Or.inr rfl)) (hd : (y == ("__debug__" : Str)) = false := by decide) (hcd : (y == ("__classdict__" : Str)) = false := by decide)
  (he : starEach (e :: es) X.env = (false, eval e X.env) :: starEach es X.env := by exact se_of rfl) (hpl : (backTo pos (starEach es X.env)).any (·.1) = false := by rfl)
  (ht : eval (.Call (.Attribute (.Name y p) m apos) (e :: es) [] pos) X.env = (do
   let ov ← eval (.Name y p) X.env
   standAt apos.atName
   let (f, first) ← holding [ov] (getMethod ov m pl)
   callWith pos f first (backTo pos (starEach (e :: es) X.env)) (backToKw pos (keywordEach [] X.env))) := by rfl) : EU X (.Call (.Attribute (.Name y p) m apos) (e :: es) [] pos) (uMeth f c m i mr) := ⟨fun C ρ => by
 unfold uMeth
 refine eu_methGo (l := 0) F _ (fun as q => by rw [(h C ρ as q).2, ← hn, Nat.add_comm]) fun Cl g fd ps W σ H Q as q cl hm F' hb tk S a dx fs z1 z2 z3 z4 => ?_
 refine wp_methW (pl := pl) cl hm F' hr hb tk (wpE_of (pe_var hN hv hd hcd) ⟨_, z1, a, dx, fs, rfl, z2, z3, ?_⟩) he hpl ht
 exact (h C ρ as q).1 σ H S _ fun vs H1 s1 r1 => z4 vs H1 s1 r1⟩
theorem eu_meth0 {c m y : Str} {f : Us → List D → RL} {pl : Sem Bool} (i : Nat) (F : MCalL X.prog X.w X.K X.mg X.base k c m 1 f) (hr : Room k X.A)
  (hN : X.N[i]? = some y := by rfl) (hv : Vis X.env.scope y := by first | exact Or.inl rfl | exact Or.inr (Or.inl rfl) | exact Or.inr (Or.inr rfl)) (hd : (y == ("__debug__" : Str)) = false := by decide) (hcd : (y == ("__classdict__" : Str)) = false := by decide)
  (ht : eval (.Call (.Attribute (.Name y p) m apos) [] [] pos) X.env = (do
   let ov ← eval (.Name y p) X.env
   standAt apos.atName
   let (f, first) ← holding [ov] (getMethod ov m pl)
   callWith pos f first (backTo pos (starEach [] X.env)) (backToKw pos (keywordEach [] X.env))) := by rfl) : EU X (.Call (.Attribute (.Name y p) m apos) [] [] pos) (uMeth f c m i aNil) := ⟨fun C ρ => by
 unfold uMeth
 refine eu_methGo (l := 0) F _ (fun as q => by cases q; rfl) fun Cl g fd ps W σ H Q as q cl hm F' hb tk S a dx fs z1 z2 z3 z4 => ?_
 cases q
 refine wp_methW0 (pl := pl) cl hm F' hr hb tk (wpE_of (pe_var hN hv hd hcd) ⟨_, z1, a, dx, fs, rfl, z2, z3, ?_⟩) ht
 exact z4 [] H (Same.refl H) .nil⟩
end
end DL
set_option maxHeartbeats 1000000
namespace DL
open PySem PySem.Spec PyProof.Rows L2
section
variable {X : Cx} {C : Ctx} {ρ : Rho} {P : Post} {e a b c o value : Expr} {es rest : List Expr} {pos p p1 p2 pos' : Pos} {k : Nat} {x : Str} {m mk : MX} {mu nu : MU} {σ : L2.St} {H : Hp} {st : Stmt} {ts us : List Stmt} {f g : Fr → O}
def eVarG (i : Nat) : MX := fun E => match lendAt E i with
 | some (.lst, ds) => .ok (.ro ds)
 | _ => .bad
def fldG (c : Str) (ns : List Str) (k : Nat) : Option (GK × List D) → R RV
 | some (.obj c' ns', ds) => if c' = c ∧ ns' = ns then (match ds[k]? with
  | some d => .ok (.im d)
  | none => .bad) else .bad
 | _ => .bad
def eFldG (c : Str) (ns : List Str) (k i : Nat) : MX := fun E => fldG c ns k (lendAt E i)
theorem em_fldG {c f y : Str} {ns : List Str} (k i : Nat) (T : OwnT X.K X.mg c ns) (hk : ns[k]? = some f := by rfl) (nd : ns.Nodup := by decide +kernel) (hN : X.N[i]? = some y := by rfl) (hv : Vis X.env.scope y := by first | exact Or.inl rfl | exact Or.inr (Or.inl rfl) | exact Or.inr (Or.inr rfl))
  (hd : (y == ("__debug__" : Str)) = false := by decide) (hcd : (y == ("__classdict__" : Str)) = false := by decide) (hb : attributeBase (.Name y p) f X.env (eval (.Name y p) X.env) = eval (.Name y p) X.env := by rfl) : EM X (.Attribute (.Name y p) f pos) (eFldG c ns k i) := .mk fun C ρ => by
 unfold eFldG fldG
 split
 ·rename_i c' ns' ds q1
  split
  ·rename_i q2
   obtain ⟨rfl, rfl⟩ := q2
   split
   ·rename_i d q3
    intro σ H S Q q
    obtain ⟨_, e, a, _, _, h3, _, ⟨xs, o, h4, ⟨hl, Cl, dx, hc, rfl⟩, h6⟩, _⟩ := lend_own S q1
    obtain ⟨Cl', T⟩ := T
    have e1 := hc.symm.trans T.nC
    cases e1
    obtain ⟨v, hv', rv⟩ := h6.get q3
    exact wpE_of (pe_fld (pe_var hN hv hd hcd) hb) ⟨_, h3, _, _, _, _, v, rfl, h4, T.cl, T.na f (List.mem_of_getElem? hk), lookup_zip nd hk hv', q v H (Same.refl H) rv⟩
   ·trivial
  ·trivial
 ·trivial
theorem SRel.putG (S : SRel X.K C H σ ρ) {i : Nat} {u : GK × List D} (h : lendAt (frOf ρ) i = some u) {ds : List D} {o : HO} {xs : List V} (hf : ∀ a, GForm X.K [] a u.1 xs o) (r : Reps X.K (vis C (ows ρ) H) xs ds) :
  ∃ a ρ', σ[i]? = some (some (.ref a)) ∧ frOf ρ' = setS (frOf ρ) i (newSl (nthS (frOf ρ) i) ds) ∧ SRel X.K C (upd H a o) σ ρ' ∧ Same (vis C (ows ρ) H) (vis C (ows ρ') (upd H a o)) := by
 obtain ⟨p, e, a, h1, h2, h3, _, _, h5⟩ := lend_own S h
 have go : ∀ x : En, x = newEn e ds → (∀ ds', x = .ow a ds' → ∃ xs', o = .lst xs' ∧ Reps X.K (vis C (ows ρ) H) xs' ds') → (∀ k' ds', x = .og a k' ds' → ∃ xs', GForm X.K C.le a k' xs' o ∧ Reps X.K (vis C (ows ρ) H) xs' ds') → (∀ ds', x ≠ .od a ds') → (∀ d, x ≠ .im d) → (∀ as d, x ≠ .ot as d) →
   ∃ a ρ', σ[i]? = some (some (V.ref a)) ∧ frOf ρ' = setS (frOf ρ) i (newSl (nthS (frOf ρ) i) ds) ∧ SRel X.K C (upd H a o) σ ρ' ∧ Same (vis C (ows ρ) H) (vis C (ows ρ') (upd H a o)) := fun x ex c1 c2 c3 c4 c5 => by
  obtain ⟨S2, v2⟩ := S.updOwn i (o := o) (x := x) h1 h2 (by rw [ex, newEn_own]; exact h2) h3 c1 (fun ds' z => (c3 ds' z).elim) c4 c5 c2
  refine ⟨a, _, h3, ?_, S2, v2⟩
  rw [frOf_set, ex, newEn_sl, frOf_nth, h1]
  rfl
 rcases h5 with ⟨rfl, h5⟩ | ⟨k, rfl, h5⟩
 ·refine go (.ow a ds) rfl (fun ds' z => ?_) (fun _ _ z => by cases z) (fun _ z => by cases z) (fun _ z => by cases z) (fun _ _ z => by cases z)
  cases z
  have w := hf a
  rw [h5] at w
  exact ⟨xs, w, r⟩
 ·refine go (.og a k ds) rfl (fun _ z => by cases z) (fun k' ds' z => ?_) (fun _ z => by cases z) (fun _ z => by cases z) (fun _ _ z => by cases z)
  cases z
  refine ⟨xs, ?_, r⟩
  obtain ⟨_, ys, o', _, z, _⟩ := S.og i _ _ _ h1
  have w := hf a
  rw [← h5] at w
  rw [← h5] at p
  cases k with
  | lent j kb => exact ⟨z.1, w.plain p⟩
  | dct ks => exact w.plain p
  | obj c ns => exact w.plain p
  | lst => exact w.plain p
def setFG (c : Str) (ns : List Str) (k i : Nat) (E : Fr) (d : D) : Option (GK × List D) → O
 | some (.obj c' ns', ds) => if c' = c ∧ ns' = ns ∧ k < ds.length ∧ ns.length < 1000 then .nx (setS E i (newSl (nthS E i) (ds.set k d))) else .bad
 | _ => .bad
def sFldG (c : Str) (ns : List Str) (k i : Nat) (m : MX) : Fr → O := fun E => match toD (m E) with
 | .ok d => setFG c ns k i E d (lendAt E i)
 | .er n => .er n E
 | .bad => (match m E with
  | .er n => .er n E
  | _ => .bad)
theorem putF_set {f : Str} {v : V} : ∀ {ns : List Str} {xs : List V} {k : Nat}, ns.Nodup → ns[k]? = some f → ns.length = xs.length → putF f v (ns.zip xs) = ns.zip (xs.set k v)
 | n :: ns, x :: xs, 0, nd, h, l => by
  simp at h
  subst h
  show (if n = n then (n, v) :: ns.zip xs else _) = _
  rw [if_pos rfl]
  rfl
 | n :: ns, x :: xs, k + 1, nd, h, l => by
  have nd' := List.nodup_cons.mp nd
  have h' : ns[k]? = some f := by simpa using h
  have ne : ¬ n = f := fun z => nd'.1 (z ▸ List.mem_of_getElem? h')
  show (if n = f then (n, v) :: ns.zip xs else (n, x) :: putF f v (ns.zip xs)) = _
  rw [if_neg ne, putF_set nd'.2 h' (by simpa using l)]
  rfl
 | [], _, _, _, h, _ => by simp at h
 | _ :: _, [], _, _, _, l => by cases l
theorem sm_fldG {c f y : Str} {ns : List Str} (k i : Nat) (T : OwnT X.K X.mg c ns) (h : EM X e m) (hk : ns[k]? = some f := by rfl) (nd : ns.Nodup := by decide +kernel) (hN : X.N[i]? = some y := by rfl) (hv : Vis X.env.scope y := by first | exact Or.inl rfl | exact Or.inr (Or.inl rfl) | exact Or.inr (Or.inr rfl))
  (hd : (y == ("__debug__" : Str)) = false := by decide) (hcd : (y == ("__classdict__" : Str)) = false := by decide) (hs : swapsWith e (some (.Attribute (.Name y p) f pos')) pos.line X.env = pure false := by rfl) : SM X (.Assign [.Attribute (.Name y p) f pos'] e pos) (sFldG c ns k i m) := .mk fun C ρ P ok => by
 unfold sFldG at ok
 split at ok
 ·rename_i d q0
  unfold setFG at ok
  split at ok
  ·rename_i c' ns' ds q1
   split at ok
   ·rename_i q2
    obtain ⟨rfl, rfl, q3, q4⟩ := q2
    intro σ H D S L
    refine wpS_of (ps_fld (pe_var hN hv hd hcd) pe_wp hs) (h.ee q0 σ H S _ fun v H1 s1 r1 => ?_)
    have S1 := S.same s1
    obtain ⟨_, e, a, _, _, h3, _, ⟨xs, o, h4, ⟨hl, Cl, dx, hc, rfl⟩, h6⟩, _⟩ := lend_own S1 q1
    obtain ⟨Cl', T⟩ := T
    have e1 := hc.symm.trans T.nC
    cases e1
    refine ⟨_, h3, a, Cl, dx, _, rfl, h4, T.cl, T.na f (List.mem_of_getElem? hk), by rw [List.length_zip, ← hl, Nat.min_self]; exact q4, ?_⟩
    rw [putF_set nd hk hl]
    obtain ⟨a', ρ', z1, z2, z3, z4⟩ := S1.putG q1 (o := .ins Cl dx (ns'.zip (xs.set k v))) (xs := xs.set k v) (ds := ds.set k d) (fun b => ⟨by rw [List.length_set]; exact hl, Cl, dx, hc, rfl⟩) (Reps.set k r1 h6)
    rw [h3] at z1
    cases z1
    exact L.nx _ _ _ (ok ρ' z2) z3 ((vis_same s1).trans z4)
   ·exact ok.elim
  ·exact ok.elim
 ·rename_i n q0
  have : toD (m (frOf ρ)) ≠ .er n := by
   generalize m (frOf ρ) = r
   rcases r with (_ | _ | _) | _ | _ <;> intro z <;> cases z
  exact (this q0).elim
 ·split at ok
  ·rename_i n q1
   intro σ H D S L
   obtain ⟨W, tk, hW⟩ := L.tk
   have h' := h.run C ρ
   rw [q1] at h'
   exact wpS_of (ps_fld (pe_var hN hv hd hcd) pe_wp hs) (h' σ H S W tk (fun c' H1 kk s1 => hW n c' ρ σ H1 (ok ρ rfl) kk (S.same s1) (vis_same s1)) _)
  ·exact ok.elim
def sSetIxG (i : Nat) (mk m : MX) : Fr → O := fun E => match lendAt E i with
 | some (.lst, ds) => (match toD (mk E) with
  | .ok (.at (.int j)) => (match ixN ds.length j with
   | some n => (match toD (m E) with
    | .ok d => .nx (setS E i (newSl (nthS E i) (ds.set n d)))
    | _ => .bad)
   | none => .bad)
  | _ => .bad)
 | _ => .bad
def sMakeG (c : Str) (ns : List Str) (f : List D → R (List D)) (i : Nat) : Fr → O := fun E => match f [] with
 | .ok es => .nx (setS E i (.og (.obj c ns) es))
 | _ => .bad
theorem sm_makeG (i : Nat) {k : Nat} {c x : Str} {ns : List Str} {f : List D → R (List D)} {fl : List D → List Bool} (F : KCal X.prog X.w X.K X.mg X.base k c ns 1 f fl) (hr : Room (k + 1) X.A) (hN : X.N.Nodup) (hi : X.N[i]? = some x := by rfl) (hx : Loc X.env.scope x := by first | exact Or.inl rfl | exact Or.inr rfl)
  (hs : swapsWith (.Call (.Name c p) [] [] p1) (some (.Name x p2)) pos.line X.env = pure false := by rfl) (hf : X.fn x = true ∨ X.env.scope.names.lookup x = some .local := by first | exact .inl rfl | exact .inr rfl) (hg : Gl X c := by rfl) (hdb : (c == ("__debug__" : Str)) = false := by decide) :
  SM X (.Assign [.Name x p2] (.Call (.Name c p) [] [] p1) pos) (sMakeG c ns f i) := .mk fun C ρ P ok => by
 unfold sMakeG at ok
 split at ok
 ·rename_i es' q2
  obtain ⟨Cl, g, fd, ps, hm, hc, M, hb, F⟩ := F.ex
  intro σ H D S L
  refine wpS_of (ps_set hN hi hx (pe_make0 (dvs := []) M F hr hg hm hb .nil passL hdb) hs hf) ?_
  intro x dx nx ndx ne
  refine ⟨vis C (ows ρ) H, H, x, dx, [], [], es', rfl, rfl, nx, ndx, ne, S.visIn, .nil, rfl, q2, fun xs H' s' hx hl rr _ => ⟨rfl, ?_⟩⟩
  have vc := vis_callee (l := [x]) S.hh (fun a h => (S.fr a h).2) (fun b z => by
   have e : b = x := by simpa using z
   rw [e]
   exact nx) s'
  by_cases hi : i < ρ.length
  ·obtain ⟨S2, s2⟩ := S.setOwn i hi (x := .og x (.obj c ns) es') rfl nx s' (by rw [hx]; intro z; cases z) (fun _ e => by cases e) (fun _ e => by cases e) (fun _ e => by cases e) (fun _ _ e => by cases e) (fun k ds' e => by
    cases e
    exact ⟨xs, _, hx, ⟨hl, Cl, dx, hc, rfl⟩, Reps.mono vc _ rr⟩)
   exact L.nx _ _ _ (ok _ (frOf_set ..)) S2 s2
  ·have h' := ok (ρ.set i (.og x (.obj c ns) es')) (frOf_set ..)
   rw [set_oob hi] at h'
   show D.nx (σ.set i (some (.ref x))) _
   rw [set_oobS (by rw [S.len]; exact hi)]
   exact L.nx _ _ _ h' (S.same s') (vis_same s')
 ·exact ok.elim
def sBad : Fr → O := fun _ => .bad
theorem sm_bad : SM X st sBad := .mk fun C ρ P ok => ok.elim
def onU (r : RU) (kk : D → Fr → O) : O := match r with
 | .ok d E => kk d E
 | .er n E => .er n E
 | .bad => .bad
theorem ws_onU {kk : D → Fr → O} {t : TE → Prop} (h : EU X e mu) (ok : OkO P (onU (mu (frOf ρ)) kk)) (T : ∀ (σ : L2.St) (H : Hp) (D : Ends), (∀ Q : VK, wpE X e σ H Q) → wpS X st D σ H)
  (T2 : ∀ (d : D) (E : Fr), OkO P (kk d E) → ∀ (σ : L2.St) (H : Hp) (D : Ends), Lk X C (vis C (ows ρ) H) P D → ((Q : VK) → (∀ v H' ρ', Aft X.K C (vis C (ows ρ) H) σ E H' ρ' → Rep X.K (vis C (ows ρ') H') v d → Q v H') → wpE X e σ H Q) → wpS X st D σ H) : WS X C ρ st P := by
 have h' := h.run C ρ
 unfold onU at ok
 revert h' ok
 generalize mu (frOf ρ) = r
 intro ok h'
 cases r with
 | ok d E => exact fun σ H D S L => T2 d E ok σ H D L (h' σ H S)
 | er n E =>
  intro σ H D S L
  obtain ⟨W, tk, hW⟩ := L.tk
  exact T σ H D fun Q => h' σ H S W tk (fun c H' ρ' k A => hW n c ρ' σ H' (ok ρ' A.fr) k A.S A.v) Q
 | bad => exact ok.elim
def suSet (i : Nat) (mu : MU) : Fr → O := fun E => onU (mu E) fun d E1 => .nx (setS E1 i (.im d))
def suDrop (mu : MU) : Fr → O := fun E => onU (mu E) fun _ E1 => .nx E1
theorem su_drop (h : EU X e mu) (hs : swapsWith e none pos.line X.env = pure false := by rfl) : SM X (.Expr e pos) (suDrop mu) := .mk fun C ρ P ok =>
 ws_onU (t := fun _ => True) h ok (fun σ H D h => wpS_of (ps_expr pe_wp hs) (h _)) fun d E ok σ H D L h => wpS_of (ps_expr pe_wp hs) (h _ fun v H' ρ' A r => L.nx _ _ _ (ok _ A.fr) A.S A.v)
def suRet (mu : MU) : Fr → O := fun E => onU (mu E) fun d _ => .rt (.im d)
theorem su_ret (h : EU X e mu) : SM X (.Return (some e) pos) (suRet mu) := .mk fun C ρ P ok =>
 ws_onU (t := fun _ => True) h ok (fun σ H D h => wpS_of (ps_ret pe_wp) (h _)) fun d E ok σ H D L h => wpS_of (ps_ret pe_wp) (h _ fun v H' ρ' A r => L.rt _ v H' ok A.S.hh (Rep.mono (vis_sub fun _ z => absurd z List.not_mem_nil) _ r))
def retU (L : Nat) (d : D) (E : Fr) : O := match lents E 0 L with
 | some us => .rt (.up d us)
 | none => .bad
def suRetL (L : Nat) (mu : MU) : Fr → O := fun E => onU (mu E) fun d E1 => retU L d E1
theorem su_retL (L : Nat) (h : EU X e mu) : SM X (.Return (some e) pos) (suRetL L mu) := .mk fun C ρ P ok => by
 refine ws_onU (t := fun _ => True) h ok (fun σ H D h => wpS_of (ps_ret pe_wp) (h _)) fun d E ok σ H D Lk h => wpS_of (ps_ret pe_wp) (h _ fun v H' ρ' A r => ?_)
 unfold retU at ok
 split at ok
 ·rename_i us q
  refine Lk.rt _ v H' ok A.S.hh fun hl => ?_
  have e1 : L = C.le.length := by rw [← (lents_get q).1, hl]
  obtain ⟨z1, z2⟩ := lents_back A.S (by rw [← e1, A.fr]; exact q)
  exact ⟨Rep.mono z2 _ r, z1⟩
 ·exact ok.elim
inductive RT' where
 | ok (b : Bool) (E : Fr)
 | er (n : Str) (E : Fr)
 | bad
def TOk (X : Cx) (C : Ctx) (ρ : Rho) (wp : TT) : RT' → Prop
 | .ok b E => ∀ σ H, SRel X.K C H σ ρ → ∀ Q : Bool → Hp → Prop, (∀ H' ρ', Aft X.K C (vis C (ows ρ) H) σ E H' ρ' → Q b H') → wp σ H Q
 | .er n E => ∀ σ H, SRel X.K C H σ ρ → ∀ W : WX, Takes X W → (∀ c H' ρ', clsOf X.K n = some c → Aft X.K C (vis C (ows ρ) H) σ E H' ρ' → W (.ref c) none σ H') → ∀ Q : Bool → Hp → Prop, wp σ H Q
 | .bad => True
structure TU (X : Cx) (e : Expr) (t : Fr → RT') : Prop where
 run : ∀ C ρ, TOk X C ρ (wpT X e) (t (frOf ρ))
structure WU (X : Cx) (e : Expr) (t : Fr → RT') : Prop where
 run : ∀ C ρ, TOk X C ρ (wpW X e) (t (frOf ρ))
def utOf (t : Fr → R Bool) : Fr → RT' := fun E => match t E with
 | .ok b => .ok b E
 | _ => .bad
def utGo : RU → RT'
 | .ok (.at (.bl b)) E => .ok b E
 | .er n E => .er n E
 | _ => .bad
def utVal (mu : MU) : Fr → RT' := fun E => utGo (mu E)
theorem ut_val (h : EU X e mu) (he : ∀ whole, isTrue e X.env whole = (do let v ← whole; standAt e.pos; holding [v] (truthy v)) := by intro _; rfl) : TU X e (utVal mu) := ⟨fun C ρ => by
 have h' := h.run C ρ
 unfold utVal utGo
 revert h'
 generalize mu (frOf ρ) = r
 intro h'
 split
 ·rename_i b E
  refine fun σ H S Q k => wpT_of (pt_val pe_wp he) (h' σ H S _ fun v H1 ρ1 A r => ?_)
  cases r
  exact ⟨b, rfl, k H1 ρ1 A⟩
 ·exact fun σ H S W tk hW Q => wpT_of (pt_val pe_wp he) (h' σ H S W tk hW _)
 ·trivial⟩
def utNot (t : Fr → RT') : Fr → RT' := fun E => match t E with
 | .ok b E1 => .ok (!b) E1
 | r => r
variable {t u : Fr → RT'}
theorem ut_not (h : TU X a t) : TU X (.UnaryOp .Not a pos) (utNot t) := ⟨fun C ρ => by
 have h' := h.run C ρ
 unfold utNot
 revert h'
 generalize t (frOf ρ) = r
 intro h'
 cases r with
 | ok b E => exact fun σ H S Q k => wpT_of (pt_not pt_wp) (h' σ H S _ fun H1 ρ1 A => k H1 ρ1 A)
 | er n E => exact fun σ H S W tk hW Q => wpT_of (pt_not pt_wp) (h' σ H S W tk hW _)
 | bad => trivial⟩
theorem WU.tu (h : WU X e t) : TU X e t := ⟨fun C ρ => by
 have h' := h.run C ρ
 revert h'
 generalize t (frOf ρ) = r
 intro h'
 cases r with
 | ok b E => exact fun σ H S Q k => wpT_of (PW.pt pw_wp) (h' σ H S Q k)
 | er n E => exact fun σ H S W tk hW Q => wpT_of (PW.pt pw_wp) (h' σ H S W tk hW _)
 | bad => trivial⟩
theorem wu_or1 (h : TU X a t) : WU X (.BoolOp .Or [a] pos) t := ⟨fun C ρ => by
 have h' := h.run C ρ
 revert h'
 generalize t (frOf ρ) = r
 intro h'
 cases r with
 | ok b E => exact fun σ H S Q k => wpW_of (pw_or1 pt_wp) (h' σ H S Q k)
 | er n E => exact fun σ H S W tk hW Q => wpW_of (pw_or1 pt_wp) (h' σ H S W tk hW _)
 | bad => trivial⟩
def utAnd (t u : Fr → RT') : Fr → RT' := fun E => match t E with
 | .ok true E1 => u E1
 | r => r
def utOr (t u : Fr → RT') : Fr → RT' := fun E => match t E with
 | .ok false E1 => u E1
 | r => r
theorem wu_or (h : TU X a t) (h2 : WU X (.BoolOp .Or (b :: rest) pos) u) : WU X (.BoolOp .Or (a :: b :: rest) pos) (utOr t u) := ⟨fun C ρ => by
 have h' := h.run C ρ
 unfold utOr
 revert h'
 generalize t (frOf ρ) = r
 intro h'
 cases r with
 | ok b E =>
  cases b with
  | true => exact fun σ H S Q k => wpW_of (pw_or pt_wp pw_wp) (h' σ H S _ fun H1 ρ1 A => iteT (k H1 ρ1 A))
  | false =>
   dsimp only
   cases q : u E with
   | ok b2 E2 =>
    refine fun σ H S Q k => wpW_of (pw_or pt_wp pw_wp) (h' σ H S _ fun H1 ρ1 A => iteF ?_)
    have g := h2.run C ρ1
    rw [A.fr, q] at g
    exact g σ H1 A.S Q fun H2 ρ2 A2 => k H2 ρ2 (A.trans A2)
   | er n E2 =>
    refine fun σ H S W tk hW Q => wpW_of (pw_or pt_wp pw_wp) (h' σ H S _ fun H1 ρ1 A => iteF ?_)
    have g := h2.run C ρ1
    rw [A.fr, q] at g
    exact g σ H1 A.S W tk (fun c H2 ρ2 k A2 => hW c H2 ρ2 k (A.trans A2)) _
   | bad => trivial
 | er n E => exact fun σ H S W tk hW Q => wpW_of (pw_or pt_wp pw_wp) (h' σ H S W tk hW _)
 | bad => trivial⟩
def suIf (t : Fr → RT') (f g : Fr → O) : Fr → O := fun E => match t E with
 | .ok true E1 => f E1
 | .ok false E1 => g E1
 | .er n E1 => .er n E1
 | .bad => .bad
theorem su_if (h : TU X c t) (h1 : BM X ts f) (h2 : BM X us g) : SM X (.If c ts us pos) (suIf t f g) := .mk fun C ρ P ok => by
 have h' := h.run C ρ
 unfold suIf at ok
 revert h' ok
 generalize t (frOf ρ) = r
 intro ok h'
 cases r with
 | ok b E =>
  cases b with
  | true => exact fun σ H D S L => wpS_of (ps_if pt_wp pss_wp pss_wp) (h' σ H S _ fun H1 ρ1 A => iteT (h1 C ρ1 P (by rw [A.fr]; exact ok) σ H1 D A.S (L.later A.v)))
  | false => exact fun σ H D S L => wpS_of (ps_if pt_wp pss_wp pss_wp) (h' σ H S _ fun H1 ρ1 A => iteF (h2 C ρ1 P (by rw [A.fr]; exact ok) σ H1 D A.S (L.later A.v)))
 | er n E =>
  intro σ H D S L
  obtain ⟨W, tk, hW⟩ := L.tk
  exact wpS_of (ps_if pt_wp pss_wp pss_wp) (h' σ H S W tk (fun c H' ρ' k A => hW n c ρ' σ H' (ok ρ' A.fr) k A.S A.v) _)
 | bad => exact ok.elim
def uAnd (m n : MU) : MU := fun E => match m E with
 | .ok (.at (.bl true)) E1 => (match n E1 with
  | .ok (.at (.bl b)) E2 => .ok (.bl b) E2
  | .er z E2 => .er z E2
  | _ => .bad)
 | .ok (.at (.bl false)) E1 => .ok (.bl false) E1
 | .er z E1 => .er z E1
 | _ => .bad
def cmpU (ne : Bool) (mb : MX) : RU → RT'
 | .ok (.at (.str i)) E1 => (match toD (mb E1) with
  | .ok (.at (.str j)) => .ok (bif ne then !(i == j) else i == j) E1
  | _ => .bad)
 | .er n E1 => .er n E1
 | _ => .bad
theorem uc_run {op : CmpOp} {ne : Bool} {mb : MX} (ho : ∃ r : R2, OpR X (compareOp op) r ∧ ∀ (i j : Str) (H : Hp) (Q : VK), Q (.bl (bif ne then !(i == j) else i == j)) H → r (.str i) (.str j) H Q) (ha : EU X a mu) (hb : EM X b mb) {σ : L2.St} {H : Hp} (S : SRel X.K C H σ ρ) :
  (∀ k E, cmpU ne mb (mu (frOf ρ)) = .ok k E → ∀ Q : VK, (∀ H' ρ', Aft X.K C (vis C (ows ρ) H) σ E H' ρ' → Q (.bl k) H') → wpC X op a b σ H Q) ∧
  (∀ n E, cmpU ne mb (mu (frOf ρ)) = .er n E → ∀ W : WX, Takes X W → (∀ c H' ρ', clsOf X.K n = some c → Aft X.K C (vis C (ows ρ) H) σ E H' ρ' → W (.ref c) none σ H') → ∀ Q : VK, wpC X op a b σ H Q) := by
 obtain ⟨r, hr1, hr2⟩ := ho
 have ha' := ha.run C ρ
 unfold cmpU
 revert ha'
 generalize mu (frOf ρ) = ru
 intro ha'
 split
 ·rename_i i E1
  split
  ·rename_i j q
   refine ⟨fun k E e Q kk => ?_, fun n E e => by cases e⟩
   cases e
   intro pins s I
   refine binT pe_wp pe_wp I (R := fun v u H2 => r v u H2 Q) (ha' σ H S _ fun v H1 ρ1 A r1 => ?_) fun v u s2 x y H2 I2 rx ry q2 => hr1 pins s2 σ H2 x y v u Q I2 rx ry q2
   refine hb.ee (by rw [A.fr]; exact q) σ H1 A.S _ fun u H2 s2 r2 => ?_
   cases r1
   cases r2
   exact hr2 i j H2 Q (kk H2 ρ1 (A.same s2))
  ·exact ⟨fun k E e => (by cases e), fun n E e => (by cases e)⟩
 ·rename_i n0 E1
  refine ⟨fun k E e => (by cases e), fun n E e W tk hW Q => ?_⟩
  cases e
  intro pins s I
  exact binT pe_wp pe_wp I (R := fun _ _ _ => False) (ha' σ H S W tk hW _) fun _ _ _ _ _ _ _ _ _ z => z.elim
 ·exact ⟨fun k E e => (by cases e), fun n E e => (by cases e)⟩
theorem oc_eq : ∃ r : R2, OpR X (compareOp .Eq) r ∧ ∀ (i j : Str) (H : Hp) (Q : VK), Q (.bl (bif false then !(i == j) else i == j)) H → r (.str i) (.str j) H Q := ⟨_, op_eq, fun i j H Q q => ⟨rfl, by rw [dec_str]; exact q⟩⟩
theorem oc_ne : ∃ r : R2, OpR X (compareOp .NotEq) r ∧ ∀ (i j : Str) (H : Hp) (Q : VK), Q (.bl (bif true then !(i == j) else i == j)) H → r (.str i) (.str j) H Q := ⟨_, op_ne, fun i j H Q q => ⟨rfl, by rw [dec_str]; exact q⟩⟩
def utCmp (ne : Bool) (mu : MU) (mb : MX) : Fr → RT' := fun E => cmpU ne mb (mu E)
def rtV : RT' → RU
 | .ok b E => .ok (.bl b) E
 | .er n E => .er n E
 | .bad => .bad
def uCmp (ne : Bool) (mu : MU) (mb : MX) : MU := fun E => rtV (cmpU ne mb (mu E))
theorem ut_cmp {op : CmpOp} {ne : Bool} {mb : MX} (ho : ∃ r : R2, OpR X (compareOp op) r ∧ ∀ (i j : Str) (H : Hp) (Q : VK), Q (.bl (bif ne then !(i == j) else i == j)) H → r (.str i) (.str j) H Q) (ha : EU X a mu) (hb : EM X b mb) (h1 : behindInMarks op b = false := by first | exact nobehind _ (by decide) (by decide) | rfl) :
  TU X (.Compare a [op] [b] pos) (utCmp ne mu mb) := ⟨fun C ρ => by
 unfold utCmp
 cases q : cmpU ne mb (mu (frOf ρ)) with
 | ok k E => exact fun σ H S Q kk => wpT_of (pt_cmp pc_wp h1) ((uc_run ho ha hb S).1 k E q _ fun H' ρ' A => ⟨k, rfl, kk H' ρ' A⟩)
 | er n E => exact fun σ H S W tk hW Q => wpT_of (pt_cmp pc_wp h1) ((uc_run ho ha hb S).2 n E q W tk hW _)
 | bad => trivial⟩
theorem eu_cmp {op : CmpOp} {ne : Bool} {mb : MX} (ho : ∃ r : R2, OpR X (compareOp op) r ∧ ∀ (i j : Str) (H : Hp) (Q : VK), Q (.bl (bif ne then !(i == j) else i == j)) H → r (.str i) (.str j) H Q) (ha : EU X a mu) (hb : EM X b mb) (h1 : behindInMarks op b = false := by first | exact nobehind _ (by decide) (by decide) | rfl) :
  EU X (.Compare a [op] [b] pos) (uCmp ne mu mb) := ⟨fun C ρ => by
 unfold uCmp
 cases q : cmpU ne mb (mu (frOf ρ)) with
 | ok k E => exact fun σ H S Q kk => wpE_of (pe_cmp pc_wp h1) ((uc_run ho ha hb S).1 k E q _ fun H' ρ' A => kk _ H' ρ' A (.at _))
 | er n E => exact fun σ H S W tk hW Q => wpE_of (pe_cmp pc_wp h1) ((uc_run ho ha hb S).2 n E q W tk hW _)
 | bad => trivial⟩
end
def lentO (E : Fr) (L : Nat) (k : Us → RL) : RL := match lents E 0 L with
 | some us => k us
 | none => .bad
def retL (L : Nat) : O → RL
 | .nx E => lentO E L (.ok .non)
 | .rt (.up d us) => if us.length = L then .ok d us else .bad
 | .er n E => lentO E L (.er n)
 | _ => .bad
def fnL (n L : Nat) (b : Fr → O) (us : Us) (as : List D) : RL := if us.length = L then retL L (b (startL n us as)) else .bad
def postL (L : Nat) (r : RL) : Post := { nx := fun ρ => lentO (frOf ρ) L (.ok .non) = r, rt := fun t => retL L (.rt t) = r, er := fun n ρ => lentO (frOf ρ) L (.er n) = r }
theorem postL_ok {L : Nat} {o : O} (h : notBadL (retL L o)) : OkO (postL L (retL L o)) o := by
 cases o with
 | nx E => exact fun ρ e => by show lentO (frOf ρ) L _ = _; rw [e]; rfl
 | rt r => exact rfl
 | bk E => exact h.elim
 | ct E => exact h.elim
 | er n E => exact fun ρ e => by show lentO (frOf ρ) L _ = _; rw [e]; rfl
 | bad => exact h.elim
section
variable {P : Program} {w : World} {K : PySem.W.Frag} {mg : Str → Option Value} {base : Heap}
theorem fnokL {x qual : Str} {st : Stmt} {f : Addr} {fd : FuncData} {N ps : List Str} {k L : Nat} {b : Fr → O} (F : Fun K x qual st f fd) (S : FnScope N ps (defScope st)) (hN : ps.length ≤ N.length)
  (body : ∀ (cdv : Value) (A : Around) (outer : List Env) (s : Shared) (H : Hp) (E : XK), Room k (A.deeper (envOfC qual (defScope st) s.heap.objs.size f cdv)) → BM (cxOf (L2.CX P w) P w K mg base N qual (defScope st) f cdv A outer s H E) (defBody st) b) :
  FnOk P w K mg base (L2.CX P w) (k + 1) f fd ps (spL K L ps.length (fnL N.length L b)) := by
 refine F.okX S spL_len fun cdv A outer s H vs Q E hr h => ?_
 obtain ⟨G, le, us, ws, as, rfl, nd, hL, hn, la, g, r, nb, q, qe⟩ := h
 have hu : us.length = L := by rw [la.1, hL]
 unfold fnL at nb q qe
 rw [if_pos hu] at nb
 simp only [if_pos hu] at q qe
 refine ⟨wpSs _ (defBody st), pss_wp, (body cdv A outer s H E hr).run ⟨wo H le, G, [], le⟩ _ (postL L (retL L (b (startL N.length us as)))) (by rw [frOf_startL]; exact postL_ok nb) _ H _ (srel_startL nd la g r (by rw [hu]; omega)) ⟨fun ρ σ H' h S' _ => ?_, fun ρ σ H' h => h.elim, fun ρ σ H' h => h.elim, fun t v H' h s rr => ?_, ⟨fun cls d _ H => E cls d H, takes_of rfl rfl rfl rfl, fun n c ρ σ H' h kk S' _ => ?_⟩⟩⟩
 ·have h' : lentO (frOf ρ) L (.ok .non) = retL L (b (startL N.length us as)) := h
  unfold lentO at h'
  split at h'
  ·rename_i us' e
   obtain ⟨z1, z2⟩ := lents_back (us := us') S' (by show lents (frOf ρ) 0 le.length = _; rw [hL]; exact e)
   exact q .non us' h'.symm .non H' S'.hh z1 (.at .non)
  ·rw [← h'] at nb; exact nb.elim
 ·have h' : retL L (.rt t) = retL L (b (startL N.length us as)) := h
  cases t with
  | im d => have z : RL.bad = retL L (b (startL N.length us as)) := h'; rw [← z] at nb; exact nb.elim
  | fr d => have z : RL.bad = retL L (b (startL N.length us as)) := h'; rw [← z] at nb; exact nb.elim
  | up d us' =>
   have z : (if us'.length = L then RL.ok d us' else .bad) = retL L (b (startL N.length us as)) := h'
   split at z
   ·rename_i hl
    obtain ⟨z1, z2⟩ := rr (by rw [hl, hL])
    exact q d us' z.symm v H' s z2 z1
   ·rw [← z] at nb; exact nb.elim
 ·have h' : lentO (frOf ρ) L (.er n) = retL L (b (startL N.length us as)) := h
  unfold lentO at h'
  split at h'
  ·rename_i us' e
   obtain ⟨z1, z2⟩ := lents_back (us := us') S' (by show lents (frOf ρ) 0 le.length = _; rw [hL]; exact e)
   exact qe n us' h'.symm c H' kk S'.hh z1
  ·rw [← h'] at nb; exact nb.elim
theorem calL_body {x qual : Str} {st : Stmt} {f : Addr} {fd : FuncData} {N ps : List Str} {k L : Nat} {b : Fr → O} (F : Fun K x qual st f fd) (hm : mg x = some (.ref f)) (hb : Binds K fd ps []) (S : FnScope N ps (defScope st))
  (body : ∀ (cdv : Value) (A : Around) (outer : List Env) (s : Shared) (H : Hp) (E : XK), Room k (A.deeper (envOfC qual (defScope st) s.heap.objs.size f cdv)) → BM (cxOf (L2.CX P w) P w K mg base N qual (defScope st) f cdv A outer s H E) (defBody st) b) (hN : ps.length ≤ N.length := by decide) :
  CalX P w K mg base (k + 1) x ps (spL K L ps.length (fnL N.length L b)) := ⟨f, fd, hm, F.kp, hb, fnokL F S hN body⟩
theorem mcalL_body {c m qual : Str} {fs : List Str} {st : Stmt} {N ps : List Str} {k : Nat} {b : Fr → O} (M : MethAt K c m qual st ps) (T : OwnT K mg c fs) (S : FnScope N ps (defScope st))
  (body : ∀ (cdv : Value) (A : Around) (outer : List Env) (s : Shared) (H : Hp) (E : XK) (f : Addr), Room k (A.deeper (envOfC qual (defScope st) s.heap.objs.size f cdv)) → BM (cxOf (L2.CX P w) P w K mg base N qual (defScope st) f cdv A outer s H E) (defBody st) b) (hN : ps.length ≤ N.length := by decide) :
  MCalL P w K mg base (k + 1) c m ps.length (fnL N.length 1 b) := by
 obtain ⟨Cl, f, fd, h1, h2, F, hb⟩ := M.ex
 obtain ⟨Cl', T⟩ := T
 have e1 := h1.symm.trans T.nC
 cases e1
 exact ⟨Cl, f, fd, ps, h1, T.cl, h2, hb, fnokL F S hN fun cdv A outer s H E hr => body cdv A outer s H E f hr⟩
end
end DL
set_option maxHeartbeats 1000000
namespace DL
open PySem PySem.Spec PyProof.Rows L2
section
variable {X : Cx} {C : Ctx} {ρ : Rho} {P : Post} {e b : Expr} {pos p1 p2 p3 : Pos} {m mc : MX}
def sSetCut (i : Nat) (mc m : MX) : Fr → O := fun E => match nthS E i with
 | .ow ds => (match toD (mc E) with
  | .ok (.at (.int j)) => (match m E with
   | .ok (.fr es) => if 0 ≤ j ∧ j ≤ ds.length ∧ ds.length + es.length ≤ sizeLine then .nx (setS E i (.ow (es ++ ds.drop j.toNat))) else .bad
   | _ => .bad)
  | _ => .bad)
 | _ => .bad
end
end DL
namespace DL
open PySem PySem.Spec PyProof.Rows L2
def lendS (s : Sl) : Option (GK × List D) := match s with | .ow ds => some (.lst, ds) | .og k ds => if k.base.plain = true then some (k.base, ds) else none | _ => none
def vG (u : Option (GK × List D)) : R RV := match u with | some (.lst, ds) => .ok (.ro ds) | _ => .bad
def setFGV (c : Str) (ns : List Str) (k i : Nat) (E : Fr) (r : R RV) : O := match r with | .ok (.im d) => setFG c ns k i E d (lendS (nthS E i)) | .ok (.fr ds) => setFG c ns k i E (.lst ds) (lendS (nthS E i)) | .ok (.ro _) => .bad | .er n => .er n E | .bad => .bad
def setIxGV (i : Nat) (E : Fr) (u : Option (GK × List D)) (rk r : R D) : O := match u with | some (.lst, ds) => (match rk with | .ok (.at (.int j)) => (match ixN ds.length j with | some n => (match r with | .ok d => .nx (setS E i (newSl (nthS E i) (ds.set n d))) | _ => .bad) | none => .bad) | _ => .bad) | _ => .bad
def consO (u : Option (GK × List D)) (us : Option Us) : Option Us := match u, us with | some u, some us => some (u :: us) | _, _ => none
noncomputable def callU2 (f : Us → List D → RL) (is : List Nat) (E1 : Fr) (u : Option Us) (as : List D) : RU := match u with | some us => backU E1 is us (f us as) | none => .bad
noncomputable def callU (f : Us → List D → RL) (is : List Nat) (u0 : Option Us) (r : RAr) : RU := match u0 with | some _ => (match r with | .ok as E1 => callU2 f is E1 (lends E1 is) as | .er n E1 => .er n E1 | .bad => .bad) | none => .bad
noncomputable def methU (f : Us → List D → RL) (c m : Str) (i : Nat) (E : Fr) (as : List D) (u : Option (GK × List D)) : RU := match u with | some (.obj c' ns, ds) => if c' = c ∧ ns.contains m = false then backU E [i] [(.obj c' ns, ds)] (f [(.obj c' ns, ds)] as) else .bad | _ => .bad
def uOfV (r : R RV) (E : Fr) : RU := match r with | .ok (.im d) => .ok d E | .ok (.fr ds) => .ok (.lst ds) E | .er n => .er n E | _ => .bad
def aOfV (r : R (List D)) (E : Fr) : RAr := match r with | .ok ds => .ok ds E | _ => .bad
def auC2 (d : D) (r : RAr) : RAr := match r with | .ok ds E2 => .ok (d :: ds) E2 | r => r
def auC1 (r : RU) (ma : Fr → RAr) : RAr := match r with | .ok d E1 => auC2 d (ma E1) | .er n E1 => .er n E1 | .bad => .bad
def setU (i : Nat) (r : RU) : O := match r with | .ok d E1 => .nx (setS E1 i (.im d)) | .er n E1 => .er n E1 | .bad => .bad
def dropU (r : RU) : O := match r with | .ok _ E1 => .nx E1 | .er n E1 => .er n E1 | .bad => .bad
def retU0 (r : RU) : O := match r with | .ok d _ => .rt (.im d) | .er n E1 => .er n E1 | .bad => .bad
def retU2 (d : D) (u : Option Us) : O := match u with | some us => .rt (.up d us) | none => .bad
def retUL (L : Nat) (r : RU) : O := match r with | .ok d E1 => retU2 d (lents E1 0 L) | .er n E1 => .er n E1 | .bad => .bad
def lentO2 (u : Option Us) (k : Us → RL) : RL := match u with | some us => k us | none => .bad
def ifU (r : RT') (f g : Fr → O) : O := match r with | .ok true E1 => f E1 | .ok false E1 => g E1 | .er n E1 => .er n E1 | .bad => .bad
def utOfV (r : R Bool) (E : Fr) : RT' := match r with | .ok b => .ok b E | _ => .bad
def notU (r : RT') : RT' := match r with | .ok b E1 => .ok (!b) E1 | r => r
def andU (r : RT') (u : Fr → RT') : RT' := match r with | .ok true E1 => u E1 | r => r
def orU (r : RT') (u : Fr → RT') : RT' := match r with | .ok false E1 => u E1 | r => r
def cmpU2 (ne : Bool) (i : Str) (r : R D) (E1 : Fr) : RT' := match r with | .ok (.at (.str j)) => .ok (bif ne then !(i == j) else i == j) E1 | _ => .bad
def andV2 (r : RU) : RU := match r with | .ok (.at (.bl b)) E2 => .ok (.bl b) E2 | .er z E2 => .er z E2 | _ => .bad
def andV (r : RU) (n : MU) : RU := match r with | .ok (.at (.bl true)) E1 => andV2 (n E1) | .ok (.at (.bl false)) E1 => .ok (.bl false) E1 | .er z E1 => .er z E1 | _ => .bad
def mkGV (c : Str) (ns : List Str) (i : Nat) (r : R (List D)) (E : Fr) : O := match r with | .ok es => .nx (setS E i (.og (.obj c ns) es)) | _ => .bad
def cutV0 (i : Nat) (s : Sl) (rk : R D) (r : R RV) (E : Fr) : O := match s with | .ow ds => (match rk with | .ok (.at (.int j)) => (match r with | .ok (.fr es) => if 0 ≤ j ∧ j ≤ ds.length ∧ ds.length + es.length ≤ sizeLine then .nx (setS E i (.ow (es ++ ds.drop j.toNat))) else .bad | _ => .bad) | _ => .bad) | _ => .bad
section
variable {E E1 : Fr} {f g : Fr → O} {t : Fr → R Bool} {tu tv : Fr → RT'} {mu mv : MU} {m mk : MX} {al : Fr → R (List D)} {au : Fr → RAr} {x y z x1 : D} {ds es xs ys : List D} {i j k n L : Nat} {c mn nm s1 s2 : Str} {ns : List Str} {is : List Nat} {u u2 : GK × List D} {us : Us} {kd kd2 : GK} {fu : Us → List D → RL} {ku : Us → RL} {b : Fr → O} {bb : Bool} {fi : List D → R (List D)}
theorem eu_lendAt : lendAt E i = lendS (nthS E i) := rfl
theorem eu_ls_ow : lendS (.ow ds) = some (.lst, ds) := rfl
theorem eu_ls_o : lendS (.og (.obj c ns) ds) = some (.obj c ns, ds) := rfl
theorem eu_ls_lo : lendS (.og (.lent j (.obj c ns)) ds) = some (.obj c ns, ds) := rfl
theorem eu_ls_ll : lendS (.og (.lent j .lst) ds) = some (.lst, ds) := rfl
theorem eu_varG : eVarG i E = vG (lendS (nthS E i)) := rfl
theorem eu_vG : vG (some (.lst, ds)) = .ok (.ro ds) := rfl
theorem eu_fldG : eFldG c ns k i E = fldG c ns k (lendS (nthS E i)) := rfl
theorem eu_fld0 : fldG c ns 0 (some (.obj c ns, x :: ds)) = .ok (.im x) := by simp [fldG]
theorem eu_fld1 : fldG c ns 1 (some (.obj c ns, x :: y :: ds)) = .ok (.im y) := by simp [fldG]
theorem eu_sfld : sFldG c ns k i m E = setFGV c ns k i E (m E) := by unfold sFldG setFGV; rcases m E with (_ | _ | _) | _ | _ <;> rfl
theorem eu_sfld_i : setFGV c ns k i E (.ok (.im x)) = setFG c ns k i E x (lendS (nthS E i)) := rfl
theorem eu_sfld_f : setFGV c ns k i E (.ok (.fr ds)) = setFG c ns k i E (.lst ds) (lendS (nthS E i)) := rfl
theorem eu_sfld_e : setFGV c ns k i E (.er nm) = .er nm E := rfl
theorem eu_sf0 : setFG "Sheet" ["now", "earlier"] 0 i E z (some ((.obj "Sheet" ["now", "earlier"], [x, y]))) = .nx (setS E i (newSl (nthS E i) [z, y])) := by unfold setFG; exact if_pos ⟨rfl, rfl, by simp, by decide⟩
theorem eu_sf1 : setFG "Sheet" ["now", "earlier"] 1 i E z (some ((.obj "Sheet" ["now", "earlier"], [x, y]))) = .nx (setS E i (newSl (nthS E i) [x, z])) := by unfold setFG; exact if_pos ⟨rfl, rfl, by simp, by decide⟩
theorem eu_new_ow : newSl (.ow ds) es = .ow es := rfl
theorem eu_new_og : newSl (.og kd ds) es = .og kd es := rfl
theorem eu_six : sSetIxG i mk m E = setIxGV i E (lendS (nthS E i)) (toD (mk E)) (toD (m E)) := by unfold sSetIxG setIxGV; rfl
theorem eu_six0 : setIxGV i E (some (.lst, [x, y])) (.ok (.int 0)) (.ok z) = .nx (setS E i (newSl (nthS E i) [z, y])) := rfl
theorem eu_six1 : setIxGV i E (some (.lst, [x, y])) (.ok (.int 1)) (.ok z) = .nx (setS E i (newSl (nthS E i) [x, z])) := rfl
theorem eu_lends0 : lends E [] = some [] := rfl
theorem eu_lends1 : lends E (i :: is) = consO (lendS (nthS E i)) (lends E is) := rfl
theorem eu_consO : consO (some u) (some us) = some (u :: us) := rfl
theorem eu_ucall : uCall fu is au E = callU fu is (lends E is) (au E) := by unfold uCall callU callU2; rfl
theorem eu_callU : callU fu is (some us) (.ok ds E1) = callU2 fu is E1 (lends E1 is) ds := rfl
theorem eu_callU_e : callU fu is (some us) (.er nm E1) = .er nm E1 := rfl
theorem eu_callU2 : callU2 fu is E1 (some us) ds = backU E1 is us (fu us ds) := rfl
theorem eu_back1 : backU E [i] [(kd, ds)] (.ok x [(kd, es)]) = .ok x (setS E i (newSl (nthS E i) es)) := by unfold backU; exact if_pos rfl
theorem eu_back1e : backU E [i] [(kd, ds)] (.er nm [(kd, es)]) = .er nm (setS E i (newSl (nthS E i) es)) := by unfold backU; exact if_pos rfl
theorem eu_back2 : backU E [i, j] [(kd, ds), (kd2, xs)] (.ok x [(kd, es), (kd2, ys)]) = .ok x (setS (setS E i (newSl (nthS E i) es)) j (newSl (nthS (setS E i (newSl (nthS E i) es)) j) ys)) := by unfold backU; exact if_pos rfl
theorem eu_back2e : backU E [i, j] [(kd, ds), (kd2, xs)] (.er nm [(kd, es), (kd2, ys)]) = .er nm (setS (setS E i (newSl (nthS E i) es)) j (newSl (nthS (setS E i (newSl (nthS E i) es)) j) ys)) := by unfold backU; exact if_pos rfl
theorem eu_umeth : uMeth fu c mn i al E = uMethGo fu c mn i E (al E) := rfl
theorem eu_umg : uMethGo fu c mn i E (.ok xs) = methU fu c mn i E xs (lendS (nthS E i)) := by unfold uMethGo methU lendAt; rfl
theorem eu_mu_ask : methU fu "Sheet" "ask" i E xs (some ((.obj "Sheet" ["now", "earlier"], ds))) = backU E [i] [((.obj "Sheet" ["now", "earlier"]), ds)] (fu [((.obj "Sheet" ["now", "earlier"]), ds)] xs) := by unfold methU; exact if_pos ⟨rfl, by decide⟩
theorem eu_mu_done : methU fu "Sheet" "done" i E xs (some ((.obj "Sheet" ["now", "earlier"], ds))) = backU E [i] [((.obj "Sheet" ["now", "earlier"]), ds)] (fu [((.obj "Sheet" ["now", "earlier"]), ds)] xs) := by unfold methU; exact if_pos ⟨rfl, by decide⟩
theorem eu_mu_undone : methU fu "Sheet" "undone" i E xs (some ((.obj "Sheet" ["now", "earlier"], ds))) = backU E [i] [((.obj "Sheet" ["now", "earlier"]), ds)] (fu [((.obj "Sheet" ["now", "earlier"]), ds)] xs) := by unfold methU; exact if_pos ⟨rfl, by decide⟩
theorem eu_uof : uOf m E = uOfV (m E) E := by unfold uOf uOfV; rcases m E with (_ | _ | _) | _ | _ <;> rfl
theorem eu_uof_i : uOfV (.ok (.im x)) E = .ok x E := rfl
theorem eu_uof_f : uOfV (.ok (.fr ds)) E = .ok (.lst ds) E := rfl
theorem eu_uof_e : uOfV (.er nm) E = .er nm E := rfl
theorem eu_aof : aOf al E = aOfV (al E) E := by unfold aOf aOfV; rfl
theorem eu_aof_k : aOfV (.ok ds) E = .ok ds E := rfl
theorem eu_auc : auCons mu au E = auC1 (mu E) au := by unfold auCons auC1 auC2; rcases mu E with _ | _ | _ <;> rfl
theorem eu_auc1 : auC1 (.ok x E1) au = auC2 x (au E1) := rfl
theorem eu_auc1e : auC1 (.er nm E1) au = .er nm E1 := rfl
theorem eu_auc2 : auC2 x (.ok ds E1) = .ok (x :: ds) E1 := rfl
theorem eu_suset : suSet i mu E = setU i (mu E) := by unfold suSet setU onU; rfl
theorem eu_setU : setU i (.ok x E1) = .nx (setS E1 i (.im x)) := rfl
theorem eu_setU_e : setU i (.er nm E1) = .er nm E1 := rfl
theorem eu_sudrop : suDrop mu E = dropU (mu E) := by unfold suDrop dropU onU; rfl
theorem eu_dropU : dropU (.ok x E1) = .nx E1 := rfl
theorem eu_dropU_e : dropU (.er nm E1) = .er nm E1 := rfl
theorem eu_suret : suRet mu E = retU0 (mu E) := by unfold suRet retU0 onU; rfl
theorem eu_retU0 : retU0 (.ok x E1) = .rt (.im x) := rfl
theorem eu_retU0_e : retU0 (.er nm E1) = .er nm E1 := rfl
theorem eu_suretl : suRetL L mu E = retUL L (mu E) := by unfold suRetL retUL onU retU retU2; rfl
theorem eu_retul : retUL L (.ok x E1) = retU2 x (lents E1 0 L) := rfl
theorem eu_retul_e : retUL L (.er nm E1) = .er nm E1 := rfl
theorem eu_retu2 : retU2 x (some us) = .rt (.up x us) := rfl
theorem eu_lents1o : lents (.og (.lent 0 (.obj c ns)) ds :: E) 0 1 = some [(.obj c ns, ds)] := rfl
theorem eu_lents1l : lents (.og (.lent 0 .lst) ds :: E) 0 1 = some [(.lst, ds)] := rfl
theorem eu_lents2 : lents (.og (.lent 0 (.obj c ns)) ds :: .og (.lent 1 .lst) es :: E) 0 2 = some [(.obj c ns, ds), (.lst, es)] := rfl
theorem eu_retl1 : retL 1 (.rt (.up x [u])) = .ok x [u] := rfl
theorem eu_retl2 : retL 2 (.rt (.up x [u, u2])) = .ok x [u, u2] := rfl
theorem eu_retl_n : retL L (.nx E) = lentO2 (lents E 0 L) (.ok .non) := rfl
theorem eu_retl_e : retL L (.er nm E) = lentO2 (lents E 0 L) (.er nm) := rfl
theorem eu_lento : lentO2 (some us) ku = ku us := rfl
theorem eu_fnl1 : fnL n 1 b [u] ds = retL 1 (b (startL n [u] ds)) := rfl
theorem eu_fnl2 : fnL n 2 b [u, u2] ds = retL 2 (b (startL n [u, u2] ds)) := rfl
theorem eu_start1 : startL n [(kd, es)] ds = .og (.lent 0 kd) es :: (ds.map Sl.im ++ List.replicate (n - 1 - ds.length) .no) := rfl
theorem eu_start2 : startL n [(kd, es), (kd2, xs)] ds = .og (.lent 0 kd) es :: .og (.lent 1 kd2) xs :: (ds.map Sl.im ++ List.replicate (n - 2 - ds.length) .no) := rfl
theorem eu_suif : suIf tu f g E = ifU (tu E) f g := by unfold suIf ifU; rfl
theorem eu_ifU_t : ifU (.ok true E1) f g = f E1 := rfl
theorem eu_ifU_f : ifU (.ok false E1) f g = g E1 := rfl
theorem eu_ifU_e : ifU (.er nm E1) f g = .er nm E1 := rfl
theorem eu_utof : utOf t E = utOfV (t E) E := by unfold utOf utOfV; rfl
theorem eu_utofv : utOfV (.ok bb) E = .ok bb E := rfl
theorem eu_utval : utVal mu E = utGo (mu E) := rfl
theorem eu_utgo : utGo (.ok (.bl bb) E) = .ok bb E := rfl
theorem eu_utgo_e : utGo (.er nm E) = .er nm E := rfl
theorem eu_utnot : utNot tu E = notU (tu E) := by unfold utNot notU; rcases tu E with _ | _ | _ <;> rfl
theorem eu_notU : notU (.ok bb E) = .ok (!bb) E := rfl
theorem eu_notU_e : notU (.er nm E) = .er nm E := rfl
theorem eu_utand : utAnd tu tv E = andU (tu E) tv := by unfold utAnd andU; rfl
theorem eu_andU_t : andU (.ok true E1) tv = tv E1 := rfl
theorem eu_andU_f : andU (.ok false E1) tv = .ok false E1 := rfl
theorem eu_utor : utOr tu tv E = orU (tu E) tv := by unfold utOr orU; rfl
theorem eu_orU_t : orU (.ok true E1) tv = .ok true E1 := rfl
theorem eu_orU_f : orU (.ok false E1) tv = tv E1 := rfl
theorem eu_andU_e : andU (.er nm E1) tv = .er nm E1 := rfl
theorem eu_orU_e : orU (.er nm E1) tv = .er nm E1 := rfl
theorem eu_utcmp : utCmp bb mu m E = cmpU bb m (mu E) := rfl
theorem eu_cmpU : cmpU bb m (.ok (.str s1) E1) = cmpU2 bb s1 (toD (m E1)) E1 := by unfold cmpU cmpU2; rfl
theorem eu_cmpU_e : cmpU bb m (.er nm E1) = .er nm E1 := rfl
theorem eu_cmpU2n : cmpU2 true s1 (.ok (.str s2)) E1 = .ok (!(s1 == s2)) E1 := rfl
theorem eu_cmpU2e : cmpU2 false s1 (.ok (.str s2)) E1 = .ok (s1 == s2) E1 := rfl
theorem eu_ucmp : uCmp bb mu m E = rtV (cmpU bb m (mu E)) := rfl
theorem eu_rtv : rtV (.ok bb E) = .ok (.bl bb) E := rfl
theorem eu_rtv_e : rtV (.er nm E) = .er nm E := rfl
theorem eu_uand : uAnd mu mv E = andV (mu E) mv := by unfold uAnd andV andV2; rfl
theorem eu_andV_t : andV (.ok (.bl true) E1) mv = andV2 (mv E1) := rfl
theorem eu_andV_f : andV (.ok (.bl false) E1) mv = .ok (.bl false) E1 := rfl
theorem eu_andV2 : andV2 (.ok (.bl bb) E1) = .ok (.bl bb) E1 := rfl
theorem eu_andV2e : andV2 (.er nm E1) = .er nm E1 := rfl
theorem eu_makeg : sMakeG c ns fi i E = mkGV c ns i (fi []) E := by unfold sMakeG mkGV; rfl
theorem eu_mkgv : mkGV c ns i (.ok es) E = .nx (setS E i (.og (.obj c ns) es)) := rfl
theorem eu_cut : sSetCut i mk m E = cutV0 i (nthS E i) (toD (mk E)) (m E) E := by unfold sSetCut cutV0; rfl
theorem eu_cut6 : cutV0 i (.ow (x :: y :: ds)) (.ok (.int 2)) (.ok (.fr [z, x1])) E = if ds.length + 4 ≤ sizeLine then .nx (setS E i (.ow (z :: x1 :: ds))) else .bad := by unfold cutV0; dsimp only; by_cases h : ds.length + 4 ≤ sizeLine; (rw [if_pos h, if_pos ⟨by decide, by simp only [List.length_cons]; omega, by simp only [List.length_cons, List.length_nil]; omega⟩]; rfl); (rw [if_neg h, if_neg]; intro q; have := q.2.2; simp only [List.length_cons, List.length_nil] at this; omega)
end
end DL
namespace DL
open PySem PySem.Spec PyProof.Rows L2
section
variable {X : Cx} {a b : Expr} {pos : Pos} {r : Fr → Option Str}
theorem re_ix (h : RE X a r) (hp : PlainIx b := by intro _ _; rfl) : RE X (.Subscript a b pos) r := .mk fun C ρ n q => fun σ H S W tk hW Q => wpE_of (pe_ix ix_tup pe_wp (pe_wp (e := b)) hp) (h.run C ρ n q σ H S W tk hW _)
end
end DL
set_option maxHeartbeats 1000000
namespace DL
open PySem PySem.Spec PyProof.Rows L2
local macro_rules | `(tactic| walk_at "sz") => `(tactic| first
 | with_reducible assumption
 | with_reducible exact Sz.ofNat _
 | ((with_reducible refine' Sz.add ?a ?b); (case a => walk_at "sz"); (case b => walk_at "sz"))
 | ((with_reducible refine' Sz.sub ?a ?b); (case a => walk_at "sz"); (case b => walk_at "sz"))
 | ((with_reducible refine' Sz.mul ?a ?b); (case a => walk_at "sz"); (case b => walk_at "sz"))
 | ((with_reducible refine' Sz.neg ?a); (case a => walk_at "sz"))
 | ((with_reducible refine' Sz.emod ?a ?b); (case a => walk_at "sz"); (case b => first | decide | omega | decide +kernel))
 | ((with_reducible refine' Sz.ediv ?a ?b); (case a => walk_at "sz"); (case b => first | decide | omega | decide +kernel))
 | ((with_reducible refine' Sz.nabs ?a); (case a => walk_at "sz"))
 | ((with_reducible refine' Sz.gcd ?a ?b); (case a => walk_at "sz"); (case b => walk_at "sz"))
 | ((with_reducible refine' Sz.ite ?a ?b); (case a => walk_at "sz"); (case b => walk_at "sz"))
 | exact Sz.self _)
local macro_rules | `(tactic| walk_at "szl") => `(tactic| first | with_reducible assumption | exact Sz.mono (by walk_at "sz") (by decide +kernel))
local macro_rules | `(tactic| walk_at "dis") => `(tactic| first
 | with_reducible assumption
 | ((with_reducible show IntMulOk _ _); exact Sz.ok (by walk_at "sz") (by walk_at "sz") (by decide +kernel))
 | ((with_reducible show Sz _ _); walk_at "szl")
 | ((with_reducible show CPow _ _); exact cpow_mk (by decide) (by decide) (by decide +kernel))
 | ((with_reducible show @LE.le Nat _ _ _); ((try simp only [List.length_cons, List.length_nil, List.length_map, List.length_append, List.length_range, Nat.reduceAdd, Nat.reduceLeDiff]) <;> omega))
 | omega
 | assumption)
local macro_rules | `(tactic| walk_at "ev") => `(tactic| try simp -implicitDefEqProofs (disch := walk_at "dis") only [eu_lendAt, eu_ls_ow, eu_ls_o, eu_ls_lo, eu_ls_ll, eu_varG, eu_vG, eu_fldG, eu_fld0, eu_fld1, eu_sfld, eu_sfld_i, eu_sfld_f, eu_sfld_e, eu_sf0, eu_sf1, eu_new_ow, eu_new_og, eu_six, eu_six0, eu_six1, eu_lends0, eu_lends1, eu_consO, eu_ucall, eu_callU, eu_callU_e, eu_callU2, eu_back1, eu_back1e, eu_back2, eu_back2e, eu_umeth, eu_umg, eu_mu_ask, eu_mu_done, eu_mu_undone, eu_uof, eu_uof_i, eu_uof_f, eu_uof_e, eu_aof, eu_aof_k, eu_auc, eu_auc1, eu_auc1e, eu_auc2, eu_suset, eu_setU, eu_setU_e, eu_sudrop, eu_dropU, eu_dropU_e, eu_suret, eu_retU0, eu_retU0_e, eu_suretl, eu_retul, eu_retul_e, eu_retu2, eu_lents1o, eu_lents1l, eu_lents2, eu_retl1, eu_retl2, eu_retl_n, eu_retl_e, eu_lento, eu_fnl1, eu_fnl2, eu_start1, eu_start2, eu_suif, eu_ifU_t, eu_ifU_f, eu_ifU_e, eu_utof, eu_utofv, eu_utval, eu_utgo, eu_utgo_e, eu_utnot, eu_notU, eu_notU_e, eu_utand, eu_andU_t, eu_andU_f, eu_utor, eu_orU_t, eu_orU_f, eu_andU_e, eu_orU_e, eu_utcmp, eu_cmpU, eu_cmpU_e, eu_cmpU2n, eu_cmpU2e, eu_ucmp, eu_rtv, eu_rtv_e, eu_uand, eu_andV_t, eu_andV_f, eu_andV2, eu_andV2e, eu_makeg, eu_mkgv, eu_cut, eu_cut6, ev_addl_ff, ev_addl_ii, ev_addl_if, ev_addl_fi, ev_addl_oi, ev_addl_of, ev_addt, not_true_eq_false, not_false_eq_true, fnR, startF, cut_map, inR_ints, retN_at, eqD_quads, eqD_t3s, eqD_ints, eqD_t3, eqD_q4, List.length_map, Int.reduceToNat, Int.reducePow, Int.reduceMul, Int.reduceSub, Int.reduceAdd, Int.reduceNeg, Int.reduceEq, Int.reduceNe, Int.reduceLT, Int.reduceLE, lcT_b, decide_true, decide_false, List.map_cons, List.map_nil, List.length_cons, List.length_nil, List.cons_append, List.nil_append, Nat.reduceAdd, Nat.reduceSub, List.replicate_succ, List.replicate_zero, List.append_nil, List.append_assoc, mulZ_ok, fdivZ_pos, modZ_pos, powZ_ok, ifF_dec, ifF_bool, andF_bool, orF_bool, Bool.not_true, Bool.not_false, Bool.and_true, Bool.true_and, Bool.false_and, Bool.and_false, Bool.true_or, Bool.or_true, Bool.false_or, Bool.or_false, List.any_cons, List.any_nil, Bool.true_eq_false, decide_eq_true_eq, reduceIte, Bool.false_eq_true, Bool.not_eq_true', decide_eq_false_iff_not, rng1_ok, rng2_ok, lcGo_le, appV_le, intsOf_ints, Option.map_some, then_ite, retO_ite, ev_sq, ev_if, ev_then_nx, ev_then_rt, ev_then_bk, ev_then_ct, ev_then_er, ev_ret_nx, ev_ret_rt, ev_ret_er, ev_iff_t, ev_iff_f, ev_set, ev_set_i, ev_set_f, ev_set_e, ev_seto, ev_seto_i, ev_seto_f, ev_seto_e, ev_sret, ev_sret_i, ev_sret_f, ev_sret_e, ev_retv, ev_retv_i, ev_retv_o, ev_retn, ev_asg, ev_asg_i, ev_asg_f, ev_asg_e, ev_asgs, ev_aug, ev_aug_i, ev_app, ev_setix, ev_pop, ev_raise, ev_pass, ev_break, ev_cont, ev_par, ev_par_2, ev_for, ev_for_l, ev_for0, ev_drop, ev_drop_i, ev_drop_f, ev_drop_e, ev_next_nx, ev_next_ct, ev_next_bk, ev_next_rt, ev_next_er, ev_frz0, ev_frz1, ev_nth0, ev_nth1, ev_st0, ev_st1, ev_sets0, ev_sets1, ev_wipe0, ev_wipe1, ev_gname, ev_gtup_t, ev_gtup_l, ev_gcons, ev_gnil, ev_appr, ev_var, ev_var_i, ev_var_o, ev_c, ev_tod_i, ev_tod_f, ev_tol_i, ev_tol_f, ev_tol_o, ev_toa_i, ev_toa_f, ev_toa_o, ev_e1, ev_un1, ev_e2, ev_bi2, ev_int1, ev_int2, ev_sub, ev_neg, ev_abs, ev_max, ev_min, ev_add, ev_add_i, ev_c2, ev_cb2, ev_lt, ev_le, ev_gt, ev_ge, ev_eq, ev_ne, ev_eqi, ev_eqd_i, ev_eqd_b, ev_eqd_s, ev_ixs, ev_sls, ev_lens, ev_its, ev_str, ev_str2, ev_sw, ev_findr, ev_part, ev_ins, ev_nins, ev_eqt, ev_eqat, ev_eqta, ev_eql_ii, ev_eql_if, ev_eql_io, ev_eql_fi, ev_eql_ff, ev_eql_fo, ev_eql_oi, ev_eql_of, ev_eql_oo, ev_not, ev_isn, ev_notn, ev_non_i, ev_non_f, ev_non_o, ev_isnon_n, ev_isnon_i, ev_isnon_b, ev_isnon_s, ev_isnon_t, ev_isnon_l, ev_cmp, ev_blr, ev_bolr, ev_tand, ev_tand_t, ev_tand_f, ev_tor, ev_tor_t, ev_tor_f, ev_tnot, ev_eand, ev_eor, ev_enot, ev_tval, ev_tru_b, ev_tru_l, ev_tru_f, ev_tru_o, ev_ifx, ev_chain, ev_chain_i, ev_anil, ev_acons, ev_lcons, ev_consr, ev_tup, ev_tupr, ev_lst, ev_lstr, ev_ix, ev_ix_t, ev_ix_l, ev_ix_f, ev_ix_o, ev_at0, ev_at1, ev_at2, ev_at3, ev_at4, ev_at5, ev_onone, ev_osome, ev_intr, ev_sl, ev_sl_i, ev_sl_f, ev_sl_o, ev_rev, ev_revr, ev_len, ev_len_t, ev_len_i, ev_len_f, ev_len_o, ev_suml, ev_minl, ev_maxl, ev_mapl, ev_sumi, ev_tuple, ev_list, ev_seq_t, ev_seq_i, ev_seq_f, ev_seq_o, ev_imtup, ev_isi, ev_isit, ev_isi_n, ev_isit_n, ev_isi_b, ev_isit_b, ev_isi_i, ev_isit_i, ev_isi_s, ev_isit_s, ev_isi_t, ev_isit_t, ev_isi_l, ev_isit_l, ev_call, ev_callr, ev_retw_i, ev_retw_f, ev_retw_e, ev_calld, ev_nond, ev_imonly, ev_callk, ev_snoc, ev_callo, ev_calln, ev_call0, ev_noer_i, ev_lc, ev_ttrue, ev_ival, ev_it_t, ev_it_i, ev_it_f, ev_izip, ev_zip3, ev_zip3_l, ev_zip_ll, ev_zip_lt, ev_zip_tl, ev_zip_tt, ev_int, ev_int_b, ev_int_i, ev_rg1, ev_rg2, ev_rg3, ev_inl, ev_nin, ev_int_, ev_nint, ev_isb, ev_isbr, ev_isx, ev_try, ev_try_nx, ev_try_rt, ev_lc1, ev_lca, ev_lct_t, ev_lct_f, ev_free0, ev_free1, ev_free_n, ev_free_i, ev_free_o, ev_lcn0, ev_lcn1, ev_opt_s, ev_opt_n, ev_oni, ev_oni_s, ev_ints0, ev_ints1, ev_ty_NoneType_int, ev_ty_NoneType_bool, ev_ty_NoneType_str, ev_ty_NoneType_tuple, ev_ty_NoneType_list, ev_ty_bool_int, ev_ty_bool_bool, ev_ty_bool_str, ev_ty_bool_tuple, ev_ty_bool_list, ev_ty_int_int, ev_ty_int_bool, ev_ty_int_str, ev_ty_int_tuple, ev_ty_int_list, ev_ty_str_int, ev_ty_str_bool, ev_ty_str_str, ev_ty_str_tuple, ev_ty_str_list, ev_ty_tuple_int, ev_ty_tuple_bool, ev_ty_tuple_str, ev_ty_tuple_tuple, ev_ty_tuple_list, ev_ty_list_int, ev_ty_list_bool, ev_ty_list_str, ev_ty_list_tuple, ev_ty_list_list, ev_t3ix0, ev_t3ix1, ev_t3ix2, ev_t3tup, ev_t3len, ev_t3isi, ev_t3non, ev_q4ix0, ev_q4ix1, ev_q4ix2, ev_q4ix3, ev_q4tup, ev_q4len, ev_q4isi, ev_q4non, ev_t3eq, ev_q4eq, ev_t3noL, ev_nc0, ev_nc1, ev_nc2, ev_nc3, ev_nc4, ev_nc5, ev_nc6, ev_nc7, ev_nc8, ev_nc9, ev_nc10, ev_nc11, ev_nc12, ev_nc13, ev_nc14, ev_nc15, ev_nc16, ev_nc17, ev_nc18, ev_nc19, ev_nc20, ev_nc21, ev_nc22, ev_nc23, ev_nc24, ev_nc25, ev_nc26, ev_nc27, ev_nc28, ev_nc29, ev_nc30, ev_nc31, ev_nc32, ev_nc33, ev_nc34, ev_nc35, ev_nc36, ev_nc37, ev_nc38, ev_nc39, ev_nc40])
local macro_rules | `(tactic| walk_at "evs") => `(tactic| try simp -implicitDefEqProofs (disch := walk_at "dis") only [eu_lendAt, eu_ls_ow, eu_ls_o, eu_ls_lo, eu_ls_ll, eu_varG, eu_vG, eu_fldG, eu_fld0, eu_fld1, eu_sfld, eu_sfld_i, eu_sfld_f, eu_sfld_e, eu_sf0, eu_sf1, eu_new_ow, eu_new_og, eu_six, eu_six0, eu_six1, eu_lends0, eu_lends1, eu_consO, eu_ucall, eu_callU, eu_callU_e, eu_callU2, eu_back1, eu_back1e, eu_back2, eu_back2e, eu_umeth, eu_umg, eu_mu_ask, eu_mu_done, eu_mu_undone, eu_uof, eu_uof_i, eu_uof_f, eu_uof_e, eu_aof, eu_aof_k, eu_auc, eu_auc1, eu_auc1e, eu_auc2, eu_suset, eu_setU, eu_setU_e, eu_sudrop, eu_dropU, eu_dropU_e, eu_suret, eu_retU0, eu_retU0_e, eu_suretl, eu_retul, eu_retul_e, eu_retu2, eu_lents1o, eu_lents1l, eu_lents2, eu_retl1, eu_retl2, eu_retl_n, eu_retl_e, eu_lento, eu_fnl1, eu_fnl2, eu_start1, eu_start2, eu_suif, eu_ifU_t, eu_ifU_f, eu_ifU_e, eu_utof, eu_utofv, eu_utval, eu_utgo, eu_utgo_e, eu_utnot, eu_notU, eu_notU_e, eu_utand, eu_andU_t, eu_andU_f, eu_utor, eu_orU_t, eu_orU_f, eu_andU_e, eu_orU_e, eu_utcmp, eu_cmpU, eu_cmpU_e, eu_cmpU2n, eu_cmpU2e, eu_ucmp, eu_rtv, eu_rtv_e, eu_uand, eu_andV_t, eu_andV_f, eu_andV2, eu_andV2e, eu_makeg, eu_mkgv, eu_cut, eu_cut6, ev_addl_ff, ev_addl_ii, ev_addl_if, ev_addl_fi, ev_addl_oi, ev_addl_of, ev_addt, not_true_eq_false, not_false_eq_true, fnR, startF, cut_map, inR_ints, retN_at, eqD_quads, eqD_t3s, eqD_ints, eqD_t3, eqD_q4, List.length_map, Int.reduceToNat, Int.reducePow, Int.reduceMul, Int.reduceSub, Int.reduceAdd, Int.reduceNeg, Int.reduceEq, Int.reduceNe, Int.reduceLT, Int.reduceLE, lcT_b, decide_true, decide_false, List.map_cons, List.map_nil, List.length_cons, List.length_nil, List.cons_append, List.nil_append, Nat.reduceAdd, Nat.reduceSub, List.replicate_succ, List.replicate_zero, List.append_nil, List.append_assoc, mulZ_ok, fdivZ_pos, modZ_pos, powZ_ok, ifF_dec, ifF_bool, andF_bool, orF_bool, Bool.not_true, Bool.not_false, Bool.and_true, Bool.true_and, Bool.false_and, Bool.and_false, Bool.true_or, Bool.or_true, Bool.false_or, Bool.or_false, List.any_cons, List.any_nil, Bool.true_eq_false, decide_eq_true_eq, reduceIte, Bool.false_eq_true, Bool.not_eq_true', decide_eq_false_iff_not, rng1_ok, rng2_ok, lcGo_le, appV_le, intsOf_ints, Option.map_some, then_ite, retO_ite, ev_sq, ev_if, ev_then_nx, ev_then_rt, ev_then_bk, ev_then_ct, ev_then_er, ev_ret_nx, ev_ret_rt, ev_ret_er, ev_iff_t, ev_iff_f, ev_set, ev_set_i, ev_set_f, ev_set_e, ev_seto, ev_seto_i, ev_seto_f, ev_seto_e, ev_sret, ev_sret_i, ev_sret_f, ev_sret_e, ev_retv, ev_retv_i, ev_retv_o, ev_retn, ev_asg, ev_asg_i, ev_asg_f, ev_asg_e, ev_asgs, ev_aug, ev_aug_i, ev_app, ev_setix, ev_pop, ev_raise, ev_pass, ev_break, ev_cont, ev_par, ev_par_2, ev_for, ev_for_l, ev_for0, ev_drop, ev_drop_i, ev_drop_f, ev_drop_e, ev_next_nx, ev_next_ct, ev_next_bk, ev_next_rt, ev_next_er, ev_frz0, ev_frz1, ev_nth0, ev_nth1, ev_st0, ev_st1, ev_sets0, ev_sets1, ev_wipe0, ev_wipe1, ev_gname, ev_gtup_t, ev_gtup_l, ev_gcons, ev_gnil, ev_appr, ev_var, ev_var_i, ev_var_o, ev_c, ev_tod_i, ev_tod_f, ev_tol_i, ev_tol_f, ev_tol_o, ev_toa_i, ev_toa_f, ev_toa_o, ev_e1, ev_un1, ev_e2, ev_bi2, ev_int1, ev_int2, ev_sub, ev_neg, ev_abs, ev_max, ev_min, ev_add, ev_add_i, ev_c2, ev_cb2, ev_lt, ev_le, ev_gt, ev_ge, ev_eq, ev_ne, ev_eqi, ev_eqd_i, ev_eqd_b, ev_eqd_s, ev_ixs, ev_sls, ev_lens, ev_its, ev_str, ev_str2, ev_sw, ev_findr, ev_part, ev_ins, ev_nins, ev_eqt, ev_eqat, ev_eqta, ev_eql_ii, ev_eql_if, ev_eql_io, ev_eql_fi, ev_eql_ff, ev_eql_fo, ev_eql_oi, ev_eql_of, ev_eql_oo, ev_not, ev_isn, ev_notn, ev_non_i, ev_non_f, ev_non_o, ev_isnon_n, ev_isnon_i, ev_isnon_b, ev_isnon_s, ev_isnon_t, ev_isnon_l, ev_cmp, ev_blr, ev_bolr, ev_tand, ev_tand_t, ev_tand_f, ev_tor, ev_tor_t, ev_tor_f, ev_tnot, ev_eand, ev_eor, ev_enot, ev_tval, ev_tru_b, ev_tru_l, ev_tru_f, ev_tru_o, ev_ifx, ev_chain, ev_chain_i, ev_anil, ev_acons, ev_lcons, ev_consr, ev_tup, ev_tupr, ev_lst, ev_lstr, ev_ix, ev_ix_t, ev_ix_l, ev_ix_f, ev_ix_o, ev_at0, ev_at1, ev_at2, ev_at3, ev_at4, ev_at5, ev_onone, ev_osome, ev_intr, ev_sl, ev_sl_i, ev_sl_f, ev_sl_o, ev_rev, ev_revr, ev_len, ev_len_t, ev_len_i, ev_len_f, ev_len_o, ev_suml, ev_minl, ev_maxl, ev_mapl, ev_sumi, ev_tuple, ev_list, ev_seq_t, ev_seq_i, ev_seq_f, ev_seq_o, ev_imtup, ev_isi, ev_isit, ev_isi_n, ev_isit_n, ev_isi_b, ev_isit_b, ev_isi_i, ev_isit_i, ev_isi_s, ev_isit_s, ev_isi_t, ev_isit_t, ev_isi_l, ev_isit_l, ev_call, ev_callr, ev_retw_i, ev_retw_f, ev_retw_e, ev_calld, ev_nond, ev_imonly, ev_callk, ev_snoc, ev_callo, ev_calln, ev_call0, ev_noer_i, ev_lc, ev_ttrue, ev_ival, ev_it_t, ev_it_i, ev_it_f, ev_izip, ev_zip3, ev_zip3_l, ev_zip_ll, ev_zip_lt, ev_zip_tl, ev_zip_tt, ev_int, ev_int_b, ev_int_i, ev_rg1, ev_rg2, ev_rg3, ev_inl, ev_nin, ev_int_, ev_nint, ev_isb, ev_isbr, ev_isx, ev_try, ev_try_nx, ev_try_rt, ev_lc1, ev_lca, ev_lct_t, ev_lct_f, ev_free0, ev_free1, ev_free_n, ev_free_i, ev_free_o, ev_lcn0, ev_lcn1, ev_opt_s, ev_opt_n, ev_oni, ev_oni_s, ev_ints0, ev_ints1, ev_ty_NoneType_int, ev_ty_NoneType_bool, ev_ty_NoneType_str, ev_ty_NoneType_tuple, ev_ty_NoneType_list, ev_ty_bool_int, ev_ty_bool_bool, ev_ty_bool_str, ev_ty_bool_tuple, ev_ty_bool_list, ev_ty_int_int, ev_ty_int_bool, ev_ty_int_str, ev_ty_int_tuple, ev_ty_int_list, ev_ty_str_int, ev_ty_str_bool, ev_ty_str_str, ev_ty_str_tuple, ev_ty_str_list, ev_ty_tuple_int, ev_ty_tuple_bool, ev_ty_tuple_str, ev_ty_tuple_tuple, ev_ty_tuple_list, ev_ty_list_int, ev_ty_list_bool, ev_ty_list_str, ev_ty_list_tuple, ev_ty_list_list, ev_t3ix0, ev_t3ix1, ev_t3ix2, ev_t3tup, ev_t3len, ev_t3isi, ev_t3non, ev_q4ix0, ev_q4ix1, ev_q4ix2, ev_q4ix3, ev_q4tup, ev_q4len, ev_q4isi, ev_q4non, ev_t3eq, ev_q4eq, ev_t3noL, ev_nc0, ev_nc1, ev_nc2, ev_nc3, ev_nc4, ev_nc5, ev_nc6, ev_nc7, ev_nc8, ev_nc9, ev_nc10, ev_nc11, ev_nc12, ev_nc13, ev_nc14, ev_nc15, ev_nc16, ev_nc17, ev_nc18, ev_nc19, ev_nc20, ev_nc21, ev_nc22, ev_nc23, ev_nc24, ev_nc25, ev_nc26, ev_nc27, ev_nc28, ev_nc29, ev_nc30, ev_nc31, ev_nc32, ev_nc33, ev_nc34, ev_nc35, ev_nc36, ev_nc37, ev_nc38, ev_nc39, ev_nc40, *])
local macro_rules | `(tactic| walk_at "sets") => `(tactic| simp only [List.cons_append, List.nil_append, ev_sets1, ev_sets0, ev_st0, ev_st1])
noncomputable def m_is_whole : List D → R Ret := fnR 1
 (sq (sIf (tOr (cIsB true (eVar 0)) (cIsB false (eVar 0))) (sq (sRet (eC (.bl false)))
 .nx) .nx)
 (sq (sRet (eIsi (eVar 0) "int"))
 .nx))
noncomputable def m_common_b2 : Fr → O :=
 (sq (sPar 1 3 (aCons (eVar 3) (aCons (eMod (eVar 1) (eVar 3)) aNil)))
 .nx)
noncomputable def m_common_b1 : Fr → O :=
 (sq (sSet 3 (eAbs (eVar 2)))
 (sq (sWhile (cGt (eVar 3) (eC (.int 0))) m_common_b2)
 .nx))
noncomputable def m_common : List D → R Ret := fnR 4
 (sq (sSet 1 (eC (.int 0)))
 (sq (sFor (gName 2) (iVal (eVar 0)) m_common_b1)
 (sq (sRetV 1)
 .nx)))
noncomputable def m_lowest : List D → R Ret := fnR 3
 (sq (sSet 1 (eMax2 (eCall m_common (aCons (eVar 0) aNil)) (eC (.int 1))))
 (sq (sRet (eTuple (eLc [2] (gName 2) (iVal (eVar 0)) tTrue (eDiv (eVar 2) (eVar 1)))))
 .nx))
noncomputable def m_place_r1 : Fr → O :=
 (sq (sRet (eCall m_lowest (aCons (eTup (aCons (eSub (eC (.int 0)) (eVar 0)) (aCons (eSub (eC (.int 0)) (eVar 1)) (aCons (eSub (eC (.int 0)) (eVar 2)) aNil)))) aNil)))
 .nx)
noncomputable def m_place_r2 : Fr → O :=
 (sq (sIf (cGt (eVar 0) (eC (.int 0))) (sq (sRet (eCall m_lowest (aCons (eTup (aCons (eVar 0) (aCons (eVar 1) (aCons (eVar 2) aNil)))) aNil)))
 .nx) .nx)
 m_place_r1)
noncomputable def m_place : List D → R Ret := fnR 3
 (sq (sIf (cEq (eVar 0) (eC (.int 0))) (sq (sRaise "NoPlace")
 .nx) .nx)
 m_place_r2)
noncomputable def m_is_near : List D → R Ret := fnR 1
 (sq (sRet (eAnd (eCall m_is_whole (aCons (eVar 0) aNil)) (eCmp (cLt (eAbs (eVar 0)) (eC (.int 1000000000000))))))
 .nx)
noncomputable def m_is_dot_r1 : Fr → O :=
 (sq (sRet (eAnd (eCmp (cChain (fun i j => decide (i ≤ j)) (fun i j => decide (i ≤ j)) (eC (.int 0)) (eIx (eVar 0) (eC (.int 2))) (eC (.int 2)))) (eCmp (cChain (fun i j => decide (i ≤ j)) (fun i j => decide (i < j)) (eC (.int 1)) (eIx (eVar 0) (eC (.int 3))) (eC (.int 1000000000))))))
 .nx)
noncomputable def m_is_dot_r2 : Fr → O :=
 (sq (sIf (tOr (tNot (tVal (eCall m_is_near (aCons (eIx (eVar 0) (eC (.int 0))) aNil)))) (tOr (tNot (tVal (eCall m_is_near (aCons (eIx (eVar 0) (eC (.int 1))) aNil)))) (tOr (tNot (tVal (eCall m_is_whole (aCons (eIx (eVar 0) (eC (.int 2))) aNil)))) (tNot (tVal (eCall m_is_whole (aCons (eIx (eVar 0) (eC (.int 3))) aNil))))))) (sq (sRet (eC (.bl false)))
 .nx) .nx)
 m_is_dot_r1)
noncomputable def m_is_dot : List D → R Ret := fnR 1
 (sq (sIf (tOr (tNot (tVal (eIsiT (eVar 0) ["list", "tuple"]))) (cNe (eLen (eVar 0)) (eC (.int 4)))) (sq (sRet (eC (.bl false)))
 .nx) .nx)
 m_is_dot_r2)
noncomputable def m_made_dots_b1 : Fr → O :=
 (sq (sIf (tNot (tVal (eCall m_is_dot (aCons (eVar 1) aNil)))) (sq (sRaise "NoDots")
 .nx) .nx)
 .nx)
noncomputable def m_made_dots_r1 : Fr → O :=
 (sq (sFor (gName 1) (iVal (eVar 0)) m_made_dots_b1)
 (sq (sRet (eLc [1] (gName 1) (iVal (eVar 0)) tTrue (eTuple (eVar 1))))
 .nx))
noncomputable def m_made_dots : List D → R Ret := fnR 2
 (sq (sIf (tOr (tNot (tVal (eIsi (eVar 0) "list"))) (cGt (eLen (eVar 0)) (eC (.int 30)))) (sq (sRaise "NoDots")
 .nx) .nx)
 m_made_dots_r1)
noncomputable def m_ask_map_b1 : Fr → O :=
 (sq (sIf (tNot (tVal (eCall m_is_near (aCons (eVar 1) aNil)))) (sq (sRaise "NoMap")
 .nx) .nx)
 .nx)
noncomputable def m_ask_map_r1 : Fr → O :=
 (sq (sIf (cEq (eMul (eIx (eVar 0) (eC (.int 0))) (eIx (eVar 0) (eC (.int 3)))) (eMul (eIx (eVar 0) (eC (.int 1))) (eIx (eVar 0) (eC (.int 2))))) (sq (sRaise "NoMap")
 .nx) .nx)
 .nx)
noncomputable def m_ask_map : List D → R Ret := fnR 2
 (sq (sIf (tOr (tNot (tVal (eIsi (eVar 0) "tuple"))) (cNe (eLen (eVar 0)) (eC (.int 6)))) (sq (sRaise "NoMap")
 .nx) .nx)
 (sq (sFor (gName 1) (iVal (eVar 0)) m_ask_map_b1)
 m_ask_map_r1))
noncomputable def m_sent_b1 : Fr → O :=
 (sq (sApp 8 (eTup (aCons (eAdd (eAdd (eMul (eVar 2) (eVar 9)) (eMul (eVar 3) (eVar 10))) (eVar 6)) (aCons (eAdd (eAdd (eMul (eVar 4) (eVar 9)) (eMul (eVar 5) (eVar 10))) (eVar 7)) (aCons (eVar 11) (aCons (eVar 12) aNil))))))
 .nx)
noncomputable def m_sent : List D → R Ret := fnR 13
 (sq (sDrop (eCall m_ask_map (aCons (eVar 1) aNil)))
 (sq (sAsg (gTup (gCons (gName 2) (gCons (gName 3) (gCons (gName 4) (gCons (gName 5) (gCons (gName 6) (gCons (gName 7) gNil))))))) (eVar 1))
 (sq (sSetO 8 (eLst aNil))
 (sq (sFor (gTup (gCons (gName 9) (gCons (gName 10) (gCons (gName 11) (gCons (gName 12) gNil))))) (iVal (eVar 0)) m_sent_b1)
 (fun E => (sq (sRet (eCall m_made_dots (aCons (eVar 8) aNil)))
 .nx) (frzs E [8]))))))
noncomputable def m_two_groups : List D → R Ret := fnR 5
 (sq (sIf (cLt (eLen (eVar 0)) (eC (.int 4))) (sq (sRaise "TooFew")
 .nx) .nx)
 (sq sBad
 (sq sBad
 (sq sBad
 .nx))))
noncomputable def m_three_groups : List D → R Ret := fnR 4
 (sq (sIf (cLt (eLen (eVar 0)) (eC (.int 7))) (sq (sRaise "TooFew")
 .nx) .nx)
 (sq sBad
 (sq sBad
 (sq sBad
 (sq sBad
 (sq sBad
 (sq sBad
 .nx)))))))
noncomputable def m_deepest_r1 : Fr → O :=
 (sq (sIf (cGt (eLen (eVar 0)) (eC (.int 12))) (sq (sRaise "TooMany")
 .nx) .nx)
 (sq sBad
 (sq sBad
 (sq sBad
 (sq sBad
 (sq sBad
 (sq sBad
 (sq sBad
 .nx))))))))
noncomputable def m_deepest : List D → R Ret := fnR 11
 (sq (sIf (cEq (eVar 0) (eLst aNil)) (sq (sRaise "TooFew")
 .nx) .nx)
 m_deepest_r1)
noncomputable def m_show_dot : List D → R Ret := fnR 2
 (sq (sSet 1 (eAdd (eAdd (eAdd (eIx (eC (.str "abc")) (eIx (eVar 0) (eC (.int 2)))) (eStr (eIx (eVar 0) (eC (.int 0))))) (eC (.str ":"))) (eStr (eIx (eVar 0) (eC (.int 1))))))
 (sq (sIf (cGt (eIx (eVar 0) (eC (.int 3))) (eC (.int 1))) (sq (sSet 1 (eAdd (eAdd (eVar 1) (eC (.str "w"))) (eStr (eIx (eVar 0) (eC (.int 3))))))
 .nx) .nx)
 (sq (sRetV 1)
 .nx)))
noncomputable def m_show_dots : List D → R Ret := fnR 2
 (sq (sRet (eJoin (eC (.str " ")) (eLc [1] (gName 1) (iVal (eVar 0)) tTrue (eCall m_show_dot (aCons (eVar 1) aNil)))))
 .nx)
noncomputable def m_show_place : List D → R Ret := fnR 2
 (sq (sSet 1 (eAdd (eAdd (eStr (eIx (eVar 0) (eC (.int 1)))) (eC (.str ":"))) (eStr (eIx (eVar 0) (eC (.int 2))))))
 (sq (sIf (cGt (eIx (eVar 0) (eC (.int 0))) (eC (.int 1))) (sq (sSet 1 (eAdd (eAdd (eStr (eIx (eVar 0) (eC (.int 0)))) (eC (.str "@"))) (eVar 1)))
 .nx) .nx)
 (sq (sRetV 1)
 .nx)))
noncomputable def m_int_of_b1 : Fr → O :=
 (sq (sIf (cNotInS (eVar 5) (eC (.str "0123456789"))) (sq (sRaise "NoText")
 .nx) .nx)
 (sq (sSet 4 (eAdd (eMul (eC (.int 10)) (eVar 4)) (eIndex (eC (.str "0123456789")) (eVar 5))))
 .nx))
noncomputable def m_int_of_r1 : Fr → O :=
 (sq (sIf (tVal (eVar 2)) (sq (sSet 4 (eSub (eC (.int 0)) (eVar 4)))
 .nx) .nx)
 (sq (sIf (cNe (eStr (eVar 4)) (eVar 0)) (sq (sRaise "NoText")
 .nx) .nx)
 (sq (sRetV 4)
 .nx)))
noncomputable def m_int_of : List D → R Ret := fnR 6
 (sq (sSet 2 (eStartswith (eVar 0) (eC (.str "-"))))
 (sq (sSet 3 (eSl (eVar 0) (oSome (eInt (eVar 2))) oNone))
 (sq (sIf (tOr (cEq (eVar 3) (eC (.str ""))) (cGt (eLen (eVar 3)) (eVar 1))) (sq (sRaise "NoText")
 .nx) .nx)
 (sq (sSet 4 (eC (.int 0)))
 (sq (sFor (gName 5) (iVal (eVar 3)) m_int_of_b1)
 m_int_of_r1)))))
noncomputable def m_read_dot_r1 : Fr → O :=
 (sq (sRet (eTupE (aCons (eCall m_int_of (aCons (eVar 1) (aCons (eC (.int 12)) aNil))) (aCons (eCall m_int_of (aCons (eVar 4) (aCons (eC (.int 12)) aNil))) (aCons (eIndex (eC (.str "abc")) (eIx (eVar 0) (eC (.int 0)))) (aCons (eVar 7) aNil)))) (rCons (rOf (eCall m_int_of (aCons (eVar 1) (aCons (eC (.int 12)) aNil)))) (eCall m_int_of (aCons (eVar 1) (aCons (eC (.int 12)) aNil))) (rCons (rOf (eCall m_int_of (aCons (eVar 4) (aCons (eC (.int 12)) aNil)))) (eCall m_int_of (aCons (eVar 4) (aCons (eC (.int 12)) aNil))) (rCons rNil (eIndex (eC (.str "abc")) (eIx (eVar 0) (eC (.int 0)))) (rCons rNil (eVar 7) rNil))))))
 .nx)
noncomputable def m_read_dot_r2 : Fr → O :=
 (sq (sSet 7 (eC (.int 1)))
 (sq (sIf (cEq (eVar 5) (eC (.str "w"))) (sq (sSet 7 (eCall m_int_of (aCons (eVar 6) (aCons (eC (.int 9)) aNil))))
 (sq (sIf (cLt (eVar 7) (eC (.int 2))) (sq (sRaise "NoText")
 .nx) .nx)
 .nx)) .nx)
 m_read_dot_r1))
noncomputable def m_read_dot : List D → R Ret := fnR 8
 (sq (sAsg (gTup (gCons (gName 1) (gCons (gName 2) (gCons (gName 3) gNil)))) (ePartition (eSl (eVar 0) (oSome (eC (.int 1))) oNone) (eC (.str ":"))))
 (sq (sAsg (gTup (gCons (gName 4) (gCons (gName 5) (gCons (gName 6) gNil)))) (ePartition (eVar 3) (eC (.str "w"))))
 (sq (sIf (tOr (cNotInT (eSl (eVar 0) oNone (oSome (eC (.int 1)))) (eTup (aCons (eC (.str "a")) (aCons (eC (.str "b")) (aCons (eC (.str "c")) aNil))))) (cEq (eVar 2) (eC (.str "")))) (sq (sRaise "NoText")
 .nx) .nx)
 m_read_dot_r2)))
noncomputable def m_read_place_r1 : Fr → O :=
 (sq (sSet 7 (eCallE m_place (aCons (eCall m_int_of (aCons (eVar 1) (aCons (eC (.int 40)) aNil))) (aCons (eCall m_int_of (aCons (eVar 4) (aCons (eC (.int 40)) aNil))) (aCons (eCall m_int_of (aCons (eVar 6) (aCons (eC (.int 40)) aNil))) aNil))) (rCons (rOf (eCall m_int_of (aCons (eVar 1) (aCons (eC (.int 40)) aNil)))) (eCall m_int_of (aCons (eVar 1) (aCons (eC (.int 40)) aNil))) (rCons (rOf (eCall m_int_of (aCons (eVar 4) (aCons (eC (.int 40)) aNil)))) (eCall m_int_of (aCons (eVar 4) (aCons (eC (.int 40)) aNil))) (rCons (rOf (eCall m_int_of (aCons (eVar 6) (aCons (eC (.int 40)) aNil)))) (eCall m_int_of (aCons (eVar 6) (aCons (eC (.int 40)) aNil))) rNil)))))
 (sq (sIf (cNe (eCall m_show_place (aCons (eVar 7) aNil)) (eVar 0)) (sq (sRaise "NoText")
 .nx) .nx)
 (sq (sRetV 7)
 .nx)))
noncomputable def m_read_place_r2 : Fr → O :=
 (sq (sAsg (gTup (gCons (gName 4) (gCons (gName 5) (gCons (gName 6) gNil)))) (ePartition (eVar 3) (eC (.str ":"))))
 (sq (sIfE (rOr rNil (cEq (eVar 5) (eC (.str ""))) (rOf (eCall m_int_of (aCons (eVar 1) (aCons (eC (.int 40)) aNil))))) (tOr (cEq (eVar 5) (eC (.str ""))) (cEq (eCall m_int_of (aCons (eVar 1) (aCons (eC (.int 40)) aNil))) (eC (.int 0)))) (sq (sRaise "NoText")
 .nx) .nx)
 m_read_place_r1))
noncomputable def m_read_place_r3 : Fr → O :=
 (sq (sAsg (gTup (gCons (gName 1) (gCons (gName 2) (gCons (gName 3) gNil)))) (ePartition (eVar 0) (eC (.str "@"))))
 (sq (sIf (cEq (eVar 2) (eC (.str ""))) (sq (sPar 1 3 (aCons (eC (.str "1")) (aCons (eVar 0) aNil)))
 .nx) .nx)
 m_read_place_r2))
noncomputable def m_read_place : List D → R Ret := fnR 8
 (sq (sIf (tNot (tVal (eIsi (eVar 0) "str"))) (sq (sRaise "NoText")
 .nx) .nx)
 m_read_place_r3)
noncomputable def m_kinds_behind_r1 : Fr → O :=
 (sq (sIf (cInT (eVar 0) (eTup (aCons (eC (.str "clear")) (aCons (eC (.str "back")) (aCons (eC (.str "dots")) (aCons (eC (.str "lines")) (aCons (eC (.str "quarter")) (aCons (eC (.str "middle")) (aCons (eC (.str "deepest")) (aCons (eC (.str "two")) (aCons (eC (.str "three")) aNil))))))))))) (sq (sRet (eLst aNil))
 .nx) .nx)
 (sq (sRet (eC .non))
 .nx))
noncomputable def m_kinds_behind_r2 : Fr → O :=
 (sq (sIf (tOr (cEq (eVar 0) (eC (.str "depth"))) (cEq (eVar 0) (eC (.str "in")))) (sq (sRet (eLst (aCons (eC (.str "place")) aNil)))
 .nx) .nx)
 m_kinds_behind_r1)
noncomputable def m_kinds_behind_r3 : Fr → O :=
 (sq (sIf (cEq (eVar 0) (eC (.str "fair"))) (sq (sRet (eRep (eLst (aCons (eC (.str "letter")) aNil)) (eC (.int 2))))
 .nx) .nx)
 m_kinds_behind_r2)
noncomputable def m_kinds_behind_r4 : Fr → O :=
 (sq (sIf (cEq (eVar 0) (eC (.str "map"))) (sq (sRet (eRep (eLst (aCons (eC (.str "entry")) aNil)) (eC (.int 6))))
 .nx) .nx)
 m_kinds_behind_r3)
noncomputable def m_kinds_behind_r5 : Fr → O :=
 (sq (sIf (cEq (eVar 0) (eC (.str "cut"))) (sq (sRet (eLst (aCons (eC (.str "number")) aNil)))
 .nx) .nx)
 m_kinds_behind_r4)
noncomputable def m_kinds_behind : List D → R Ret := fnR 1
 (sq (sIf (cEq (eVar 0) (eC (.str "put"))) (sq (sRet (eLst (aCons (eC (.str "dot")) aNil)))
 .nx) .nx)
 m_kinds_behind_r5)
noncomputable def m_meant_b1 : Fr → O :=
 (sq (sIf (cEq (eVar 1) (eIx (eC (.str "abc")) (eVar 2))) (sq (sRetV 2)
 .nx) .nx)
 .nx)
noncomputable def m_meant_r1 : Fr → O :=
 (sq (sIf (cEq (eVar 0) (eC (.str "place"))) (sq (sRet (eCall m_read_place (aCons (eVar 1) aNil)))
 .nx) .nx)
 (sq (sFor (gName 2) (iRange1 (eLen (eC (.str "abc")))) m_meant_b1)
 (sq (sRaise "NoText")
 .nx)))
noncomputable def m_meant_r2 : Fr → O :=
 (sq (sIf (cEq (eVar 0) (eC (.str "entry"))) (sq (sRet (eCall m_int_of (aCons (eVar 1) (aCons (eC (.int 12)) aNil))))
 .nx) .nx)
 m_meant_r1)
noncomputable def m_meant_r3 : Fr → O :=
 (sq (sIf (cEq (eVar 0) (eC (.str "number"))) (sq (sRet (eCall m_int_of (aCons (eVar 1) (aCons (eC (.int 2)) aNil))))
 .nx) .nx)
 m_meant_r2)
noncomputable def m_meant : List D → R Ret := fnR 3
 (sq (sIf (cEq (eVar 0) (eC (.str "dot"))) (sq (sRet (eCall m_read_dot (aCons (eVar 1) aNil)))
 .nx) .nx)
 m_meant_r3)
noncomputable def m_changed_i1 : Fr → O :=
 (sq (sIf (cEq (eLen (eVar 0)) (eC (.int 30))) (sq (sRaise "NoDots")
 .nx) .nx)
 (sq (sRet (eAdd (eVar 0) (eLst (aCons (eIx (eVar 2) (eC (.int 0))) aNil))))
 .nx))
noncomputable def m_changed_r1 : Fr → O :=
 (sq (sRet (eAdd (eSl (eVar 0) oNone (oSome (eIx (eVar 2) (eC (.int 0))))) (eSl (eVar 0) (oSome (eAdd (eIx (eVar 2) (eC (.int 0))) (eC (.int 1)))) oNone)))
 .nx)
noncomputable def m_changed_r2 : Fr → O :=
 (sq (sIf (tOr (cLt (eIx (eVar 2) (eC (.int 0))) (eC (.int 0))) (cGe (eIx (eVar 2) (eC (.int 0))) (eLen (eVar 0)))) (sq (sRaise "NoSuch")
 .nx) .nx)
 m_changed_r1)
noncomputable def m_changed_r3 : Fr → O :=
 (sq (sIf (cEq (eVar 1) (eC (.str "map"))) (sq (sRet (eCall m_sent (aCons (eVar 0) (aCons (eTuple (eVar 2)) aNil))))
 .nx) .nx)
 (sq (sIf (cEq (eVar 1) (eC (.str "put"))) m_changed_i1 .nx)
 m_changed_r2))
noncomputable def m_changed : List D → R Ret := fnR 3
 (sq (sIf (cEq (eVar 1) (eC (.str "clear"))) (sq (sRet (eLst aNil))
 .nx) .nx)
 m_changed_r3)
noncomputable def m_told_of_places_i1 : Fr → O :=
 (sq (sRet (eCallE m_show_place (aCons (eIx (eCall m_two_groups (aCons (eVar 5) aNil)) (eC (.int 1))) aNil) (rCons (rOf (eCall m_two_groups (aCons (eVar 5) aNil))) (eIx (eCall m_two_groups (aCons (eVar 5) aNil)) (eC (.int 1))) rNil)))
 .nx)
noncomputable def m_told_of_places_i2 : Fr → O :=
 (sq (sRet (eCallE m_show_place (aCons (eIx (eCall m_three_groups (aCons (eVar 5) aNil)) (eC (.int 1))) aNil) (rCons (rOf (eCall m_three_groups (aCons (eVar 5) aNil))) (eIx (eCall m_three_groups (aCons (eVar 5) aNil)) (eC (.int 1))) rNil)))
 .nx)
noncomputable def m_told_of_places_r1 : Fr → O :=
 (sq (sSet 5 (eLc [4] (gName 4) (iVal (eVar 0)) tTrue (eSl (eVar 4) oNone (oSome (eC (.int 2))))))
 (sq (sIf (cEq (eVar 1) (eC (.str "two"))) m_told_of_places_i1 .nx)
 (sq (sIf (cEq (eVar 1) (eC (.str "three"))) m_told_of_places_i2 .nx)
 (sq sBad
 (sq sBad
 (sq sBad
 .nx))))))
noncomputable def m_told_of_places_r2 : Fr → O :=
 (sq (sIf (cEq (eVar 1) (eC (.str "deepest"))) (sq (sSet 3 (eCall m_deepest (aCons (eVar 0) aNil)))
 (sq sBad
 .nx)) .nx)
 m_told_of_places_r1)
noncomputable def m_told_of_places : List D → R Ret := fnR 6
 (sq (sIf (cEq (eVar 1) (eC (.str "depth"))) (sq sBad
 .nx) .nx)
 (sq (sIf (cEq (eVar 1) (eC (.str "middle"))) (sq sBad
 .nx) .nx)
 m_told_of_places_r2))
noncomputable def m_Sheet_init : List D → R (List D) := iniF 1
 (aCons (eLst aNil) (aCons (eLst aNil) aNil))
noncomputable def mf_Sheet_init : List D → List Bool := iniB 1
 (fCons (eLst aNil) (fCons (eLst aNil) fNil))
noncomputable def m_Sheet_undone_r1 : Fr → O :=
 (sq (sFldG "Sheet" ["now", "earlier"] 0 0 (eIx (eFldG "Sheet" ["now", "earlier"] 1 0) (eNeg (eC (.int 1)))))
 (sq (sFldG "Sheet" ["now", "earlier"] 1 0 (eSl (eFldG "Sheet" ["now", "earlier"] 1 0) oNone (oSome (eNeg (eC (.int 1))))))
 .nx))
noncomputable def m_Sheet_undone : Us → List D → RL := fnL 1 1
 (sq (sIf (cEq (eFldG "Sheet" ["now", "earlier"] 1 0) (eLst aNil)) (sq (sRaise "TooFew")
 .nx) .nx)
 m_Sheet_undone_r1)
noncomputable def m_Sheet_done : Us → List D → RL := fnL 4 1
 (sq (sSet 3 (eCall m_changed (aCons (eFldG "Sheet" ["now", "earlier"] 0 0) (aCons (eVar 1) (aCons (eVar 2) aNil)))))
 (sq (sFldG "Sheet" ["now", "earlier"] 1 0 (eSl (eAdd (eFldG "Sheet" ["now", "earlier"] 1 0) (eLst (aCons (eFldG "Sheet" ["now", "earlier"] 0 0) aNil))) (oSome (eSub (eC (.int 0)) (eC (.int 20)))) oNone))
 (sq (sFldG "Sheet" ["now", "earlier"] 0 0 (eVar 3))
 .nx)))
noncomputable def m_Sheet_ask_i1 : Fr → O :=
 (sq (sIf (cEq (eVar 3) (eC (.str "back"))) (sq (suDrop (uMeth m_Sheet_undone "Sheet" "undone" 0 aNil))
 .nx) (sq (suDrop (uMeth m_Sheet_done "Sheet" "done" 0 (aCons (eVar 3) (aCons (eVar 2) aNil))))
 .nx))
 (sq (suRetL 1 (uOf (eStr (eLen (eFldG "Sheet" ["now", "earlier"] 0 0)))))
 .nx))
noncomputable def m_Sheet_ask_r1 : Fr → O :=
 (sq (suRetL 1 (uOf (eCall m_told_of_places (aCons (eFldG "Sheet" ["now", "earlier"] 0 0) (aCons (eVar 3) (aCons (eVar 2) aNil))))))
 .nx)
noncomputable def m_Sheet_ask_r2 : Fr → O :=
 (sq (sIf (cInT (eVar 3) (eTup (aCons (eC (.str "lines")) (aCons (eC (.str "fair")) (aCons (eC (.str "quarter")) aNil))))) (sq sBad
 .nx) .nx)
 m_Sheet_ask_r1)
noncomputable def m_Sheet_ask_r3 : Fr → O :=
 (sq (sIf (cEq (eVar 3) (eC (.str "dots"))) (sq (suRetL 1 (uOf (eCall m_show_dots (aCons (eFldG "Sheet" ["now", "earlier"] 0 0) aNil))))
 .nx) .nx)
 m_Sheet_ask_r2)
noncomputable def m_Sheet_ask_r4 : Fr → O :=
 (sq (sSet 2 (eLcE [5, 6] (gTup (gCons (gName 5) (gCons (gName 6) gNil))) (iZipA (eVar 4) (eSl (eVar 2) (oSome (eC (.int 1))) oNone)) tTrue (eCall m_meant (aCons (eVar 5) (aCons (eVar 6) aNil)))))
 (sq (sIf (cInT (eVar 3) (eTup (aCons (eC (.str "put")) (aCons (eC (.str "cut")) (aCons (eC (.str "map")) (aCons (eC (.str "clear")) (aCons (eC (.str "back")) aNil))))))) m_Sheet_ask_i1 .nx)
 m_Sheet_ask_r3))
noncomputable def m_Sheet_ask_r5 : Fr → O :=
 (sq (sSet 2 (eSplit (eVar 1) (eC (.str " "))))
 (sq (sSet 3 (eIx (eVar 2) (eC (.int 0))))
 (sq (sSet 4 (eCall m_kinds_behind (aCons (eVar 3) aNil)))
 (sq (sIf (tOr (cIsN (eVar 4)) (cNe (eAdd (eLen (eVar 4)) (eC (.int 1))) (eLen (eVar 2)))) (sq (sRaise "NoAsk")
 .nx) .nx)
 m_Sheet_ask_r4))))
noncomputable def m_Sheet_ask : Us → List D → RL := fnL 7 1
 (sq (sIf (tNot (tVal (eIsi (eVar 1) "str"))) (sq (sRaise "NoAsk")
 .nx) .nx)
 m_Sheet_ask_r5)
noncomputable def m_law_cell_at : List D → R Ret := fnR 2
 (sq (sIf (cLt (eVar 1) (eLen (eVar 0))) (sq (sRet (eIx (eVar 0) (eVar 1)))
 .nx) .nx)
 (sq (sRet (eC (.int 0)))
 .nx))
noncomputable def m_law_stream_b1 : Fr → O :=
 (sq (sSet 3 (eMod (eAdd (eAdd (eMul (eVar 3) (eC (.int 48271))) (eMul (eVar 4) (eVar 4))) (eC (.int 11))) (eC (.int 2147483647))))
 (sq (sApp 2 (eDiv (eVar 3) (eC (.int 7))))
 .nx))
noncomputable def m_law_stream : List D → R Ret := fnR 5
 (sq (sSetO 2 (eLst aNil))
 (sq (sSet 3 (eAdd (eMod (eVar 0) (eC (.int 2147483647))) (eC (.int 48271))))
 (sq (sFor (gName 4) (iRange1 (eVar 1)) m_law_stream_b1)
 (sq (sRetV 2)
 .nx))))
noncomputable def m_law_dots : List D → R Ret := fnR 5
 (sq (sSet 1 (eCall m_law_stream (aCons (eVar 0) (aCons (eC (.int 31)) aNil))))
 (sq (sSet 2 (eIx (eLst (aCons (eC (.int 3)) (aCons (eC (.int 4)) (aCons (eC (.int 6)) (aCons (eC (.int 12)) (aCons (eC (.int 13)) (aCons (eC (.int 29)) (aCons (eC (.int 30)) (aCons (eC (.int 30)) aNil))))))))) (eMod (eIx (eVar 1) (eC (.int 30))) (eC (.int 8)))))
 (sq (sSet 4 (eLc [3] (gName 3) (iRange1 (eVar 2)) tTrue (eTup (aCons (eSub (eMod (eIx (eVar 1) (eVar 3)) (eC (.int 9))) (eC (.int 4))) (aCons (eSub (eMod (eDiv (eIx (eVar 1) (eVar 3)) (eC (.int 9))) (eC (.int 9))) (eC (.int 4))) (aCons (eMod (eDiv (eIx (eVar 1) (eVar 3)) (eC (.int 81))) (eC (.int 3))) (aCons (eAdd (eC (.int 1)) (eMod (eDiv (eIx (eVar 1) (eVar 3)) (eC (.int 243))) (eC (.int 3)))) aNil)))))))
 (sq (sRet (eAdd (eLst (aCons (eTup (aCons (eC (.int 4)) (aCons (eIx (eIx (eVar 4) (eC (.int 0))) (eC (.int 1))) (aCons (eIx (eIx (eVar 4) (eC (.int 0))) (eC (.int 2))) (aCons (eIx (eIx (eVar 4) (eC (.int 0))) (eC (.int 3))) aNil))))) aNil)) (eSl (eVar 4) (oSome (eC (.int 1))) oNone)))
 .nx))))
noncomputable def m_law_word : List D → R Ret := fnR 2
 (sq (sSet 1 (eAdd (eAdd (eAdd (eIx (eC (.str "abc")) (eIx (eVar 0) (eC (.int 2)))) (eStr (eIx (eVar 0) (eC (.int 0))))) (eC (.str ":"))) (eStr (eIx (eVar 0) (eC (.int 1))))))
 (sq (sIf (cEq (eIx (eVar 0) (eC (.int 3))) (eC (.int 1))) (sq (sRetV 1)
 .nx) .nx)
 (sq (sRet (eAdd (eAdd (eVar 1) (eC (.str "w"))) (eStr (eIx (eVar 0) (eC (.int 3))))))
 .nx)))
noncomputable def m_law_no_asks : List D → R Ret := fnR 1
 (sq (sSet 0 (eLst (aCons (eC (.str "")) (aCons (eC (.str " ")) (aCons (eC (.str "dots ")) (aCons (eC (.str " dots")) (aCons (eC (.str "dots 1")) (aCons (eC (.str "put")) (aCons (eC (.str "put a0:0 b1:1")) (aCons (eC (.str "put  a0:0")) (aCons (eC (.str "cut")) (aCons (eC (.str "cut 0 1")) (aCons (eC (.str "map 1 0 0 1 0")) aNil)))))))))))))
 (sq (sSet 0 (eAdd (eVar 0) (eLst (aCons (eC (.str "map 1 0 0 1 0 0 0")) (aCons (eC (.str "Clear")) (aCons (eC (.str "clear 1")) (aCons (eC (.str "back back")) (aCons (eC (.str "lines a")) (aCons (eC (.str "fair a")) (aCons (eC (.str "fair a b c")) (aCons (eC (.str "quarter 1")) aNil)))))))))))
 (sq (sRet (eAdd (eVar 0) (eLst (aCons (eC (.str "depth")) (aCons (eC (.str "depth 0:0 1:1")) (aCons (eC (.str "in")) (aCons (eC (.str "show")) (aCons (eC (.str "deep")) (aCons (eC (.str "undo")) (aCons (eC .non) (aCons (eC (.int 3)) (aCons (eLst (aCons (eC (.str "dots")) aNil)) (aCons (eC (.bl true)) aNil)))))))))))))
 .nx)))
noncomputable def m_law_no_texts : List D → R Ret := fnR 1
 (sq (sSet 0 (eLst (aCons (eC (.str "put ")) (aCons (eC (.str "put a0")) (aCons (eC (.str "put d0:0")) (aCons (eC (.str "put a0:0w1")) (aCons (eC (.str "put a00:0")) (aCons (eC (.str "cut ")) (aCons (eC (.str "cut 00")) (aCons (eC (.str "cut +1")) (aCons (eC (.str "cut 100")) (aCons (eC (.str "cut x")) aNil))))))))))))
 (sq (sSet 0 (eAdd (eVar 0) (eLst (aCons (eC (.str "map 1 0 0 1 0 x")) (aCons (eC (.str "map 1 0 0 1 0 -0")) (aCons (eC (.str "map 0 0 0 0 0 1000000000000")) (aCons (eC (.str "fair a d")) (aCons (eC (.str "fair  b")) aNil))))))))
 (sq (sSet 0 (eAdd (eVar 0) (eLst (aCons (eC (.str "fair A b")) (aCons (eC (.str "fair ab c")) (aCons (eC (.str "fair c bc")) (aCons (eC (.str "depth 0")) (aCons (eC (.str "depth 2@2:4")) (aCons (eC (.str "depth 1@0:0")) (aCons (eC (.str "in 0,0")) (aCons (eC (.str "in ")) aNil)))))))))))
 (sq (sRet (eAdd (eVar 0) (eLst (aCons (eC (.str "in 0@1:1")) (aCons (eC (.str "map 0 0 0 0 0 ")) aNil)))))
 .nx))))
noncomputable def m_law_deeds_r1 : Fr → O :=
 (sq (sIf (cLt (eVar 0) (eC (.int 4))) (sq (sApp 1 (eTup (aCons (eC (.str "two")) (aCons (eC (.int 6)) aNil))))
 .nx) .nx)
 (sq (sRetV 1)
 .nx))
noncomputable def m_law_deeds_r2 : Fr → O :=
 (sq (sIf (cLt (eVar 0) (eC (.int 7))) (sq (sApp 1 (eTup (aCons (eC (.str "three")) (aCons (eC (.int 6)) aNil))))
 .nx) .nx)
 m_law_deeds_r1)
noncomputable def m_law_deeds_r3 : Fr → O :=
 (sq (sIf (cGt (eVar 0) (eC (.int 12))) (sq (sApp 1 (eTup (aCons (eC (.str "deepest")) (aCons (eC (.int 5)) aNil))))
 .nx) .nx)
 m_law_deeds_r2)
noncomputable def m_law_deeds : List D → R Ret := fnR 2
 (sq (sSetO 1 (eLst (aCons (eTup (aCons (eC (.str "cut -1")) (aCons (eC (.int 3)) aNil))) (aCons (eTup (aCons (eAdd (eC (.str "cut ")) (eStr (eVar 0))) (aCons (eC (.int 3)) aNil))) (aCons (eTup (aCons (eC (.str "cut 99")) (aCons (eC (.int 3)) aNil))) (aCons (eTup (aCons (eC (.str "map 1 2 2 4 0 0")) (aCons (eC (.int 2)) aNil))) (aCons (eTup (aCons (eC (.str "map 0 0 0 0 9 9")) (aCons (eC (.int 2)) aNil))) aNil)))))))
 (sq (sSetO 1 (eAdd (eVar 1) (eLst (aCons (eTup (aCons (eC (.str "map 999999999999 0 0 999999999999 0 0")) (aCons (eC (.int 4)) aNil))) aNil))))
 (sq (sIf (cEq (eVar 0) (eC (.int 30))) (sq (sApp 1 (eTup (aCons (eC (.str "put a0:0")) (aCons (eC (.int 4)) aNil))))
 .nx) .nx)
 m_law_deeds_r3)))
noncomputable def m_law_kinds : List D → R Ret := fnR 2
 (sq (sSet 1 (eLst (aCons (eIsx (eVar 0) "NoAsk" [("NoAsk", true), ("NoDots", false), ("NoLine", false), ("NoMap", false), ("NoPlace", false), ("NoSuch", false), ("NoText", false), ("TooFew", false), ("TooMany", false)]) (aCons (eIsx (eVar 0) "NoText" [("NoAsk", false), ("NoDots", false), ("NoLine", false), ("NoMap", false), ("NoPlace", false), ("NoSuch", false), ("NoText", true), ("TooFew", false), ("TooMany", false)]) (aCons (eIsx (eVar 0) "NoMap" [("NoAsk", false), ("NoDots", false), ("NoLine", false), ("NoMap", true), ("NoPlace", false), ("NoSuch", false), ("NoText", false), ("TooFew", false), ("TooMany", false)]) aNil)))))
 (sq (sSet 1 (eAdd (eVar 1) (eLst (aCons (eIsx (eVar 0) "NoSuch" [("NoAsk", false), ("NoDots", false), ("NoLine", false), ("NoMap", false), ("NoPlace", false), ("NoSuch", true), ("NoText", false), ("TooFew", false), ("TooMany", false)]) (aCons (eIsx (eVar 0) "NoDots" [("NoAsk", false), ("NoDots", true), ("NoLine", false), ("NoMap", false), ("NoPlace", false), ("NoSuch", false), ("NoText", false), ("TooFew", false), ("TooMany", false)]) (aCons (eIsx (eVar 0) "TooMany" [("NoAsk", false), ("NoDots", false), ("NoLine", false), ("NoMap", false), ("NoPlace", false), ("NoSuch", false), ("NoText", false), ("TooFew", false), ("TooMany", true)]) aNil))))))
 (sq (sRet (eAdd (eVar 1) (eLst (aCons (eIsx (eVar 0) "TooFew" [("NoAsk", false), ("NoDots", false), ("NoLine", false), ("NoMap", false), ("NoPlace", false), ("NoSuch", false), ("NoText", false), ("TooFew", true), ("TooMany", false)]) (aCons (eIsx (eVar 0) "NoPlace" [("NoAsk", false), ("NoDots", false), ("NoLine", false), ("NoMap", false), ("NoPlace", true), ("NoSuch", false), ("NoText", false), ("TooFew", false), ("TooMany", false)]) aNil)))))
 .nx)))
noncomputable def m_law_refused_r1 : Fr → O :=
 (sq (suRetL 1 (uOf (eCmp (cEq (eCall m_law_kinds (aCons (eVar 3) aNil)) (eLc [5] (gName 5) (iRange1 (eC (.int 8))) tTrue (eCmp (cEq (eVar 5) (eVar 2))))))))
 .nx)
noncomputable def m_law_refused_r2 : Fr → O :=
 (sq (sIf (tOr (cIsN (eVar 3)) (tNot (tVal (eIsx (eVar 3) "ValueError" [("NoAsk", true), ("NoDots", true), ("NoLine", true), ("NoMap", true), ("NoPlace", true), ("NoSuch", true), ("NoText", true), ("TooFew", true), ("TooMany", true)])))) (sq (suRetL 1 (uOf (eC (.bl false))))
 .nx) .nx)
 m_law_refused_r1)
noncomputable def m_law_refused : Us → List D → RL := fnL 6 1
 (sq (sSet 3 (eC .non))
 (sq (sTry 4 ["NoAsk", "NoDots", "NoLine", "NoMap", "NoPlace", "NoSuch", "NoText", "TooFew", "TooMany"] (sq (suDrop (uMeth m_Sheet_ask "Sheet" "ask" 0 (aCons (eVar 1) aNil)))
 .nx) (sq (sSet 3 (eVar 4))
 .nx))
 m_law_refused_r2))
noncomputable def m_law_undone_b1 : Fr → O :=
 (sq (suIf (utCmp true (uMeth m_Sheet_ask "Sheet" "ask" 0 (aCons (eC (.str "back")) aNil)) (eStr (eSub (eSub (eLen (eVar 1)) (eC (.int 1))) (eVar 2)))) (sq (suRetL 1 (uOf (eC (.bl false))))
 .nx) .nx)
 .nx)
noncomputable def m_law_undone_r1 : Fr → O :=
 (sq (suRetL 1 (uCmp false (uMeth m_Sheet_ask "Sheet" "ask" 0 (aCons (eC (.str "dots")) aNil)) (eJoin (eC (.str " ")) (eLc [3] (gName 3) (iVal (eSl (eVar 1) oNone (oSome (eMax2 (eC (.int 0)) (eSub (eLen (eVar 1)) (eC (.int 20))))))) tTrue (eCall m_law_word (aCons (eVar 3) aNil))))))
 .nx)
noncomputable def m_law_undone_r2 : Fr → O :=
 (sq (suIf (utNot (utVal (uCall m_law_refused [0] (aOf (aCons (eC (.str "back")) (aCons (eC (.int 6)) aNil)))))) (sq (suRetL 1 (uOf (eC (.bl false))))
 .nx) .nx)
 m_law_undone_r1)
noncomputable def m_law_undone : Us → List D → RL := fnL 4 1
 (sq (sFor (gName 2) (iRange1 (eMin2 (eC (.int 20)) (eLen (eVar 1)))) m_law_undone_b1)
 m_law_undone_r2)
noncomputable def m_law_b1 : Fr → O :=
 (sq (suIf (utCmp true (uMeth m_Sheet_ask "Sheet" "ask" 6 (aCons (eAdd (eC (.str "put ")) (eCall m_law_word (aCons (eIx (eVar 1) (eVar 7)) aNil))) aNil)) (eStr (eAdd (eVar 7) (eC (.int 1))))) (sq (sRet (eC (.bl false)))
 .nx) .nx)
 .nx)
noncomputable def m_law_b2 : Fr → O :=
 (sq (sAsg (gTup (gCons (gName 4) (gCons (gName 9) gNil))) (eIx (eVar 5) (eMod (eMod (eMul (eVar 8) (eC (.int 48271))) (eC (.int 2147483647))) (eLen (eVar 5)))))
 (sq (suIf (utOr (utNot (utVal (uCall m_law_refused [6] (aOf (aCons (eVar 4) (aCons (eVar 9) aNil)))))) (utCmp true (uMeth m_Sheet_ask "Sheet" "ask" 6 (aCons (eC (.str "dots")) aNil)) (eVar 3))) (sq (sRet (eC (.bl false)))
 .nx) .nx)
 .nx))
noncomputable def m_law_r1 : Fr → O :=
 (sq (sFor (gName 8) (iVal (eAdd (eLst (aCons (eCall m_law_cell_at (aCons (eVar 0) (aCons (eC (.int 0)) aNil))) aNil)) (eSl (eVar 0) (oSome (eC (.int 1))) (oSome (eC (.int 41)))))) m_law_b2)
 (sq (suRet (uCall m_law_undone [6] (aOf (aCons (eVar 1) aNil))))
 .nx))
noncomputable def m_law : List D → R Ret := fnR 10
 (sq (sSet 1 (eCall m_law_dots (aCons (eCall m_law_cell_at (aCons (eVar 0) (aCons (eC (.int 0)) aNil))) aNil)))
 (sq (sSet 3 (eJoin (eC (.str " ")) (eLc [2] (gName 2) (iVal (eVar 1)) tTrue (eCall m_law_word (aCons (eVar 2) aNil)))))
 (sq (sSet 5 (eAdd (eAdd (eLc [4] (gName 4) (iVal (eCall0 m_law_no_asks)) tTrue (eTup (aCons (eVar 4) (aCons (eC (.int 0)) aNil)))) (eLc [4] (gName 4) (iVal (eCall0 m_law_no_texts)) tTrue (eTup (aCons (eVar 4) (aCons (eC (.int 1)) aNil))))) (eCall m_law_deeds (aCons (eLen (eVar 1)) aNil))))
 (sq (sMakeG "Sheet" ["now", "earlier"] m_Sheet_init 6)
 (sq (sFor (gName 7) (iRange1 (eLen (eVar 1))) m_law_b1)
 m_law_r1)))))
def nrm (a b c : Int) : P3 := (a / (Int.gcd (Int.gcd a b) c : Nat), b / (Int.gcd (Int.gcd a b) c : Nat), c / (Int.gcd (Int.gcd a b) c : Nat))
theorem gcd3_dvd (a b c : Int) : ((Int.gcd (Int.gcd a b) c : Nat) : Int) ∣ a ∧ ((Int.gcd (Int.gcd a b) c : Nat) : Int) ∣ b ∧ ((Int.gcd (Int.gcd a b) c : Nat) : Int) ∣ c := by
 have h1 : ((Int.gcd (Int.gcd a b) c : Nat) : Int) ∣ ((Int.gcd a b : Nat) : Int) := Int.gcd_dvd_left ..
 exact ⟨Int.dvd_trans h1 (Int.gcd_dvd_left ..), Int.dvd_trans h1 (Int.gcd_dvd_right ..), Int.gcd_dvd_right ..⟩
theorem gcd3_pos {a : Int} (b c : Int) (h : a ≠ 0) : 0 < Int.gcd (Int.gcd a b) c := by
 apply Nat.pos_of_ne_zero
 intro z
 have h1 := (Int.gcd_eq_zero_iff.mp z).1
 have h2 : Int.gcd a b = 0 := by omega
 exact h (Int.gcd_eq_zero_iff.mp h2).1
theorem nrm_sz {n m l : Nat} {a b c : Int} (h : a ≠ 0) (h1 : Sz n a) (h2 : Sz m b) (h3 : Sz l c) : Sz n (nrm a b c).1 ∧ Sz m (nrm a b c).2.1 ∧ Sz l (nrm a b c).2.2 := by
 have hg : (0 : Int) < ((Int.gcd (Int.gcd a b) c : Nat) : Int) := by have := gcd3_pos b c h; omega
 exact ⟨h1.ediv hg, h2.ediv hg, h3.ediv hg⟩
theorem Sz.gcd {n m : Nat} {a b : Int} (ha : Sz n a) (hb : Sz m b) : Sz (max n m) (Int.gcd a b : Nat) := by
 by_cases h : a = 0
 ·subst h
  rw [Int.gcd_zero_left]
  exact hb.nabs.mono (Nat.le_max_right _ _)
 ·have h1 : Int.gcd a b ≤ a.natAbs := Nat.le_of_dvd (by omega) (Int.gcd_dvd_natAbs_left ..)
  exact Sz.le (j := a) (by rw [Int.natAbs_natCast]; exact h1) (ha.mono (Nat.le_max_left _ _))
@[irreducible] def cellZ (ns : List Int) (k : Int) : Int := ns.getD k.toNat 0
theorem all3 {p : Int → Prop} {a b c : Int} (h1 : p a) (h2 : p b) (h3 : p c) : ∀ z ∈ [a, b, c], p z := by
 intro z hz
 simp only [List.mem_cons, List.not_mem_nil, or_false] at hz
 rcases hz with rfl | rfl | rfl <;> assumption
theorem ints_atC {ns : List Int} {k : Int} (h0 : 0 ≤ k) (h : k < ns.length) : atI (D.ints ns) k = some (.int (cellZ ns k)) := by
 rw [ints_atI h0 h]
 simp only [cellZ]
@[irreducible] def gcdL (ns : List Int) : Nat := ns.foldl (fun g n => Nat.gcd g n.natAbs) 0
theorem gcdL_nil : gcdL [] = 0 := by unfold gcdL; rfl
theorem gcdL_step {ns : List Int} {i : Nat} {n : Int} (h : ns[i]? = some n) : gcdL (ns.take (i + 1)) = Nat.gcd (gcdL (ns.take i)) n.natAbs := by
 unfold gcdL
 rw [List.take_add_one, h, List.foldl_append]
 rfl
theorem gcdL_three (a b c : Int) : gcdL [a, b, c] = Int.gcd (Int.gcd a b) c := by
 unfold gcdL
 simp [Int.gcd]
theorem gcdL_le {n : Nat} {ns : List Int} (h : ∀ z ∈ ns, Sz n z) : Sz n (gcdL ns : Nat) := by
 have key : ∀ (l : List Int) (g : Nat), (∀ z ∈ l, Sz n z) → g < 2 ^ n → l.foldl (fun g n => Nat.gcd g n.natAbs) g < 2 ^ n := by
  intro l
  induction l with
  | nil => intro g _ hg; exact hg
  | cons z l ih =>
   intro g hz hg
   refine ih _ (fun y hy => hz y (List.mem_cons_of_mem _ hy)) ?_
   by_cases e : g = 0
   ·subst e
    show Nat.gcd 0 z.natAbs < _
    rw [Nat.gcd_zero_left]
    exact (hz z List.mem_cons_self).lt
   ·exact Nat.lt_of_le_of_lt (Nat.gcd_le_left _ (by omega)) hg
 constructor
 rw [Int.natAbs_natCast]
 unfold gcdL
 exact key ns 0 h (Nat.two_pow_pos n)
@[irreducible] def lowL (ns : List Int) : List Int := ns.map fun z => z / max ((gcdL ns : Nat) : Int) 1
theorem ediv_low {a : Int} {g : Nat} (h : (g : Int) ∣ a) : a / max (g : Int) 1 = a / (g : Int) := by
 by_cases e : g = 0
 ·subst e
  have z : a = 0 := by simpa using h
  subst z
  rfl
 ·rw [Int.max_eq_left (by omega)]
theorem low_t3 (a b c : Int) : D.tup (D.ints (lowL [a, b, c])) = t3 (nrm a b c) := by
 obtain ⟨h1, h2, h3⟩ := gcd3_dvd a b c
 unfold lowL
 simp only [gcdL_three]
 show D.tup [.int (a / max ((Int.gcd (Int.gcd a b) c : Nat) : Int) 1), .int (b / max ((Int.gcd (Int.gcd a b) c : Nat) : Int) 1), .int (c / max ((Int.gcd (Int.gcd a b) c : Nat) : Int) 1)] = _
 rw [ediv_low h1, ediv_low h2, ediv_low h3]
 rfl
@[irreducible] def placeP (y : P3) : P3 := if 0 < y.1 then nrm y.1 y.2.1 y.2.2 else nrm (0 - y.1) (0 - y.2.1) (0 - y.2.2)
theorem placeP_sz {n : Nat} {y : P3} (h : y.1 ≠ 0) (s : Sz3 n y) : Sz3 (n + 1) (placeP y) := by
 obtain ⟨s1, s2, s3⟩ := s
 unfold placeP
 split
 ·obtain ⟨a, b, c⟩ := nrm_sz h s1 s2 s3
  exact ⟨a.mono (by omega), b.mono (by omega), c.mono (by omega)⟩
 ·obtain ⟨a, b, c⟩ := nrm_sz (a := 0 - y.1) (b := 0 - y.2.1) (c := 0 - y.2.2) (by omega) ((Sz.zero n).sub s1) ((Sz.zero n).sub s2) ((Sz.zero n).sub s3)
  exact ⟨a.mono (by omega), b.mono (by omega), c.mono (by omega)⟩
theorem common_ok {d : D} {ns : List Int} (hd : IsSq d (D.ints ns)) : m_common [d] = .ok (.im (.int (gcdL ns : Nat))) := by
 obtain ⟨E, h1, a, b, h2⟩ := forN_inv (enc := D.int) (g := gName 2) (f := m_common_b1) (fun i E => ∃ a b, E = [.im d, .im (.int (gcdL (ns.take i) : Nat)), a, b]) ns 0 [.im d, .im (.int 0), .no, .no]
  (fun i E x hx ⟨a, b, e⟩ => by
   subst e
   refine ⟨_, rfl, ?_⟩
   rw [Nat.zero_add]
   unfold m_common_b1
   walk_at "sets"
   walk_at "ev"
   obtain ⟨E', k1, k2⟩ := sWhile_run (t := cGt (eVar 3) (eC (.int 0))) (f := m_common_b2)
    (fun E => ∃ g r : Nat, E = [.im d, .im (.int (g : Int)), .im (.int x), .im (.int (r : Int))] ∧ Nat.gcd g r = gcdL (ns.take (i + 1)))
    (fun E => ∃ r : Nat, E = [.im d, .im (.int (gcdL (ns.take (i + 1)) : Nat)), .im (.int x), .im (.int (r : Int))])
    (fun E => match E with
     | [_, _, _, .im (.at (.int r))] => r.toNat
     | _ => 0)
    (fun E ⟨g, r, e, hg⟩ => by
     subst e
     by_cases hr : 0 < r
     ·refine .inl ⟨?_, [.im d, .im (.int (r : Int)), .im (.int x), .im (.int ((g : Int) % (r : Int)))], .inl ?_, ⟨r, g % r, by rw [Int.natCast_emod], ?_⟩, ?_⟩
      ·walk_at "ev"
       rw [decide_eq_true (by omega)]
      ·unfold m_common_b2
       have hp : (0 : Int) < (r : Int) := by omega
       walk_at "ev"
      ·rw [← hg, Nat.gcd_comm g r, Nat.gcd_rec r g, Nat.gcd_comm]
      ·show ((g : Int) % (r : Int)).toNat < (r : Int).toNat
       rw [← Int.natCast_emod, Int.toNat_natCast, Int.toNat_natCast]
       exact Nat.mod_lt _ hr
     ·have e : r = 0 := by omega
      subst e
      rw [Nat.gcd_zero_right] at hg
      subst hg
      refine .inr ⟨?_, 0, rfl⟩
      walk_at "ev") (E := [.im d, .im (.int (gcdL (ns.take i) : Nat)), .im (.int x), .im (.int (x.natAbs : Int))]) ⟨_, _, rfl, (gcdL_step hx).symm⟩
   obtain ⟨r, k2⟩ := k2
   subst k2
   rw [k1]
   exact ⟨_, .inl rfl, _, _, rfl⟩) ⟨_, _, by rw [List.take_zero, gcdL_nil]; rfl⟩
 unfold m_common
 walk_at "ev"
 rw [it_seq hd]
 walk_at "ev"
 rw [h1, h2]
 walk_at "ev"
 rw [Nat.zero_add, List.take_length]
theorem lowest_ok {d : D} {ns : List Int} (hd : IsSq d (D.ints ns)) (hs : ∀ z ∈ ns, Sz 8990 z) (hl : ns.length ≤ 1000) : m_lowest [d] = .ok (.im (.tup (D.ints (lowL ns)))) := by
 have sg := gcdL_le hs
 have pg : 0 < max ((gcdL ns : Nat) : Int) 1 := by omega
 have sm : Sz 8999 (max ((gcdL ns : Nat) : Int) 1) := by
  rcases Int.le_total 1 ((gcdL ns : Nat) : Int) with l | l
  ·rw [Int.max_eq_left l]; exact sg.mono (by decide)
  ·rw [Int.max_eq_right l]; exact (Sz.self 1).mono (by decide)
 unfold m_lowest
 walk_at "ev"
 rw [common_ok hd]
 walk_at "ev"
 rw [it_seq hd]
 walk_at "ev"
 rw [lcN_all (v := fun n => .int (n / max ((gcdL ns : Nat) : Int) 1)) (fun n hn => by walk_at "ev")]
 walk_at "ev"
 unfold lowL
 rw [ints_map]
theorem lowest3 {a b c : Int} (s : Sz3 8990 ((a, b, c) : P3)) : m_lowest [.tup [.int a, .int b, .int c]] = .ok (.im (t3 (nrm a b c))) := by
 have h := lowest_ok (ns := [a, b, c]) (.inl rfl) (all3 s.1 s.2.1 s.2.2) (by show 3 ≤ 1000; decide)
 rw [low_t3] at h
 exact h
theorem place_ok {y : P3} (h : y.1 ≠ 0) (s : Sz3 8900 y) : m_place [.int y.1, .int y.2.1, .int y.2.2] = .ok (.im (t3 (placeP y))) := by
 obtain ⟨s1, s2, s3⟩ := s
 have l1 := lowest3 (a := y.1) (b := y.2.1) (c := y.2.2) ⟨s1.mono (by decide), s2.mono (by decide), s3.mono (by decide)⟩
 have l2 := lowest3 (a := 0 - y.1) (b := 0 - y.2.1) (c := 0 - y.2.2) ⟨((Sz.zero 1).sub s1).mono (by decide), ((Sz.zero 1).sub s2).mono (by decide), ((Sz.zero 1).sub s3).mono (by decide)⟩
 unfold m_place m_place_r2 m_place_r1 placeP
 by_cases hp : 0 < y.1
 ·rw [if_pos hp]
  walk_at "evs"
 ·rw [if_neg hp]
  walk_at "evs"
section
open TL NumText
theorem dv_snoc (l : List Nat) (c : Nat) : digitsVal (l ++ [c]) = digitsVal l * 10 + (c - 48) := digitsVal_snoc l c
def numZ (z : Int) : List Nat := if 0 ≤ z then numL z.toNat else 45 :: numL (-z).toNat
theorem tl_numZ (z : Int) : tl (Str.ofString (toString z)) = numZ z := by
 unfold numZ
 by_cases h : 0 ≤ z
 ·rw [if_pos h]
  obtain ⟨n, rfl⟩ := Int.eq_ofNat_of_zero_le h
  exact tl_num n
 ·rw [if_neg h]
  have e := toString_neg (n := z) (by omega)
  have hz : 0 - z = (((-z).toNat : Nat) : Int) := by omega
  have k := tl_num (-z).toNat
  rw [tl_ofString] at k
  rw [e, tl_ofString, String.toList_append, List.map_append, hz, k]
  rfl
theorem numZ_free {z : Int} {s : Nat} (h : s < 45 ∨ (45 < s ∧ s < 48) ∨ 57 < s) : s ∉ numZ z := by
 unfold numZ
 split
 ·exact numL_free (by omega)
 ·intro m
  rcases List.mem_cons.mp m with m | m
  ·omega
  ·exact numL_free (by omega) m
def digs (t : List Nat) : List Nat := if t.head? = some 45 then t.tail else t
theorem digs_neg (l : List Nat) : digs (45 :: l) = l := rfl
theorem digs_pos {t : List Nat} (h : t.head? ≠ some 45) : digs t = t := if_neg h
def sgnV (t : List Nat) : Int := if t.head? = some 45 then -((digitsVal (digs t) : Nat) : Int) else ((digitsVal (digs t) : Nat) : Int)
instance (l : List Nat) : Decidable (AllDigits l) := by unfold AllDigits; infer_instance
def intOf (m : Nat) (t : List Nat) : Option Int := if digs t ≠ [] ∧ (digs t).length ≤ m ∧ AllDigits (digs t) ∧ numZ (sgnV t) = t then some (sgnV t) else none
theorem digs_num (z : Int) : digs (numZ z) = numL z.natAbs ∧ sgnV (numZ z) = z := by
 unfold numZ
 by_cases h : 0 ≤ z
 ·rw [if_pos h]
  have hn : (numL z.toNat).head? ≠ some 45 := by
   cases q : numL z.toNat with
   | nil => simp
   | cons x l =>
    intro e
    exact numL_free (n := z.toNat) (s := 45) (by omega) (by rw [q]; simp at e; rw [e]; exact List.mem_cons_self)
  have e : z.toNat = z.natAbs := by omega
  refine ⟨by rw [digs_pos hn, e], ?_⟩
  unfold sgnV
  rw [if_neg hn, digs_pos hn, numL_val]
  omega
 ·rw [if_neg h]
  have e : (-z).toNat = z.natAbs := by omega
  refine ⟨by rw [digs_neg, e], ?_⟩
  show -((digitsVal (numL (-z).toNat) : Nat) : Int) = z
  rw [numL_val]
  omega
theorem intOf_num {z : Int} {m : Nat} (hm : 0 < m) (h : z.natAbs < 10 ^ m) : intOf m (numZ z) = some z := by
 obtain ⟨a, b⟩ := digs_num z
 unfold intOf
 rw [a, b]
 exact if_pos ⟨numL_ne _, numL_len hm h, numL_digits _, rfl⟩
theorem dv_lt (k : Nat) : ∀ {l : List Nat}, l.length = k → AllDigits l → digitsVal l < 10 ^ l.length := by
 induction k with
 | zero =>
  intro l hk _
  rw [List.length_eq_zero_iff.mp hk]
  decide
 | succ k ih =>
  intro l hk hd
  rcases List.eq_nil_or_concat l with e | ⟨m, c, e⟩
  ·rw [e]; decide
  ·rw [List.concat_eq_append] at e
   subst e
   rw [List.length_append, List.length_singleton] at hk
   have := ih (l := m) (by omega) fun y hy => hd y (List.mem_append_left _ hy)
   have hc := hd c (by simp)
   rw [dv_snoc, List.length_append, List.length_singleton, Nat.pow_succ]
   omega
end
section
open TL NumText
def cutAt (s : Nat) : List Nat → Option (List Nat × List Nat)
 | [] => none
 | c :: r => if c = s then some ([], r) else (cutAt s r).map fun p => (c :: p.1, p.2)
theorem cutAt_app {s : Nat} {b : List Nat} : ∀ {a : List Nat}, s ∉ a → cutAt s (a ++ s :: b) = some (a, b)
 | [], _ => by rw [List.nil_append, cutAt, if_pos rfl]
 | c :: a, h => by
  rw [List.cons_append, cutAt, if_neg (fun e => h (by rw [e]; exact List.mem_cons_self)), cutAt_app fun m => h (List.mem_cons_of_mem _ m)]
  rfl
theorem cutAt_no {s : Nat} : ∀ {a : List Nat}, s ∉ a → cutAt s a = none
 | [], _ => rfl
 | c :: a, h => by
  rw [cutAt, if_neg (fun e => h (by rw [e]; exact List.mem_cons_self)), cutAt_no fun m => h (List.mem_cons_of_mem _ m)]
  rfl
theorem cutAt_some {s : Nat} : ∀ {t a b : List Nat}, cutAt s t = some (a, b) → t = a ++ s :: b ∧ s ∉ a
 | [], _, _, h => by cases h
 | c :: r, a, b, h => by
  rw [cutAt] at h
  split at h
  ·rename_i e
   cases h
   exact ⟨by rw [e]; rfl, by simp⟩
  ·rename_i e
   cases q : cutAt s r with
   | none => rw [q] at h; cases h
   | some p =>
    obtain ⟨p1, p2⟩ := p
    rw [q] at h
    cases h
    obtain ⟨i1, i2⟩ := cutAt_some q
    refine ⟨by rw [i1]; rfl, fun m => ?_⟩
    rcases List.mem_cons.mp m with m | m
    ·exact e m.symm
    ·exact i2 m
theorem cutAt_none {s : Nat} {t : List Nat} (h : cutAt s t = none) : s ∉ t := fun m => by
 obtain ⟨a, b, e, n⟩ := List.eq_append_cons_of_mem m
 rw [e, cutAt_app n] at h
 cases h
end
section
open TL NumText
def S (l : List Nat) : Str := ⟨l.toArray⟩
theorem tl_S (l : List Nat) : tl (S l) = l := rfl
theorem S_tl (x : Str) : S (tl x) = x := mk_tl x
theorem S_inj {a b : List Nat} (h : S a = S b) : a = b := by have := congrArg tl h; rwa [tl_S, tl_S] at this
theorem len_S (l : List Nat) : (S l).length = l.length := by rw [len_tl]; rfl
theorem S_app (a b : List Nat) : S a ++ S b = S (a ++ b) := ext_tl (by rw [tl_append]; rfl)
theorem S_num (z : Int) : Str.ofString (toString z) = S (numZ z) := ext_tl (by rw [tl_numZ]; rfl)
theorem lit_minus : ("-" : Str) = S [45] := by apply ext_tl; rfl
theorem lit_empty : ("" : Str) = S [] := by apply ext_tl; rfl
theorem lit_at : ("@" : Str) = S [64] := by apply ext_tl; rfl
theorem lit_colon : (":" : Str) = S [58] := by apply ext_tl; rfl
theorem lit_1 : ("1" : Str) = S [49] := by apply ext_tl; rfl
theorem lit_digits : ("0123456789" : Str) = S [48, 49, 50, 51, 52, 53, 54, 55, 56, 57] := by apply ext_tl; rfl
theorem cut_S (t : List Nat) (lo hi : Option Int) : cutS (S t) lo hi = S (cutL t lo hi) := by
 unfold cutS cutL
 rw [len_S]
 rfl
theorem signs_S (t : List Nat) : signsD (S t) = t.map fun c => D.str (S [c]) := rfl
theorem eqS (a b : List Nat) : (S a == S b) = decide (a = b) := by
 by_cases h : a = b
 ·subst h; simp
 ·have : S a ≠ S b := fun e => h (S_inj e)
  simp [h, this]
theorem eqD_S (a b : List Nat) : eqD (.str (S a)) (.str (S b)) = .ok (decide (a = b)) := by
 rw [ev_eqd_s, eqS]
theorem sw_S (t : List Nat) : Txt.startswith (S t) (S [45]) = decide (t.head? = some 45) := by
 have k := at_iff (x := S t) (y := S [45]) (by rw [tl_S]; simp) 0
 rw [tl_S, tl_S, List.drop_zero] at k
 have e : Txt.startswith (S t) (S [45]) = true ↔ PySem.StrLaws.At (S t) (S [45]) (S t).length 0 := by
  unfold Txt.startswith PySem.StrLaws.At
  rw [Bool.and_eq_true, decide_eq_true_eq]
 rw [Bool.eq_iff_iff, decide_eq_true_eq, e, k]
 cases t with
 | nil => simp [pre]
 | cons c r => simp [pre]
theorem part_S (s : Nat) (t : List Nat) : Txt.partition (S t) (S [s]) = (match cutAt s t with
  | some (a, b) => (S a, S [s], S b)
  | none => (S t, S [], S [])) := by
 cases q : cutAt s t with
 | none =>
  have := partition_none (y := S [s]) (s := s) (S := []) rfl (a := S t) (by rw [tl_S]; exact cutAt_none q)
  rw [this]
  have e : Str.empty = S [] := ext_tl rfl
  rw [e]
 | some p =>
  obtain ⟨a, b⟩ := p
  obtain ⟨e, n⟩ := cutAt_some q
  have := partition_app (y := S [s]) (s := s) (S := []) rfl (a := S a) (b := S b) (by rw [tl_S]; exact n)
  rw [S_app, S_app] at this
  rw [e, show a ++ s :: b = a ++ [s] ++ b by simp, this]
theorem index_S {c : Nat} (h : 48 ≤ c ∧ c ≤ 57) : indexR (S [48, 49, 50, 51, 52, 53, 54, 55, 56, 57]) (S [c]) = .ok (.im (.int ((c - 48 : Nat) : Int))) := by
 have all : ∀ d : Nat, d < 10 → Builtin.Str.occurrences (S [48, 49, 50, 51, 52, 53, 54, 55, 56, 57]) (S [48 + d]) 0 (S [48, 49, 50, 51, 52, 53, 54, 55, 56, 57]).length 1 = [d] := by decide +kernel
 have := all (c - 48) (by omega)
 rw [show 48 + (c - 48) = c by omega] at this
 unfold indexR
 rw [this]
end
section
open TL NumText
theorem inSR_S (c : Nat) (l : List Nat) : inSR (.ok (.str (S [c]))) (.ok (.str (S l))) = .ok (decide (c ∈ l)) := rfl
theorem isDig (c : Nat) : (c ∈ [48, 49, 50, 51, 52, 53, 54, 55, 56, 57]) ↔ (48 ≤ c ∧ c ≤ 57) := by
 simp only [List.mem_cons, List.not_mem_nil, or_false]
 omega
theorem cut0 {α : Type} (t : List α) : cutL t (some 0) none = t := by
 unfold cutL
 simp [HT.sIx]
theorem cut1 {α : Type} (t : List α) : cutL t (some 1) none = t.tail := by
 unfold cutL
 cases t with
 | nil => rfl
 | cons x t =>
  have e1 : HT.sIx (x :: t).length 0 (some 1) = 1 := by unfold HT.sIx; simp
  have e2 : HT.sIx (x :: t).length (x :: t).length none = t.length + 1 := rfl
  rw [e1, e2]
  simp
theorem int_turn {v0 v1 v2 v3 a5 : Sl} {n c : Nat} (hn : n < 10 ^ 40) : m_int_of_b1 [v0, v1, v2, v3, .im (.int (n : Int)), .im (.str (S [c]))] = if 48 ≤ c ∧ c ≤ 57 then .nx [v0, v1, v2, v3, .im (.int ((n * 10 + (c - 48) : Nat) : Int)), .im (.str (S [c]))] else .er "NoText" [v0, v1, v2, v3, .im (.int (n : Int)), .im (.str (S [c]))] := by
 have sn : Sz 200 (n : Int) := Sz.of_lt (10 ^ 40) (by omega) (by decide +kernel)
 unfold m_int_of_b1
 rw [lit_digits]
 walk_at "ev"
 rw [inSR_S]
 by_cases h : 48 ≤ c ∧ c ≤ 57
 ·have mem : decide (c ∈ [48, 49, 50, 51, 52, 53, 54, 55, 56, 57]) = true := by rw [decide_eq_true_eq, isDig]; exact h
  have ix := index_S h
  rw [mem, if_pos h]
  walk_at "ev"
  rw [ix]
  walk_at "ev"
  have e : (10 : Int) * (n : Int) + ((c - 48 : Nat) : Int) = ((n * 10 + (c - 48) : Nat) : Int) := by omega
  rw [e]
 ·have mem : decide (c ∈ [48, 49, 50, 51, 52, 53, 54, 55, 56, 57]) = false := by rw [decide_eq_false_iff_not, isDig]; exact h
  rw [mem, if_neg h]
  walk_at "ev"
theorem int_loop {v0 v1 v2 v3 : Sl} : ∀ (ds : List Nat) (n k : Nat) (a5 : Sl), n < 10 ^ k → k + ds.length ≤ 40 →
  (AllDigits ds → ∃ a5', forN (gName 5) m_int_of_b1 (ds.map fun c => D.str (S [c])) [v0, v1, v2, v3, .im (.int (n : Int)), a5] = .nx [v0, v1, v2, v3, .im (.int ((ds.foldl (fun acc c => acc * 10 + (c - 48)) n : Nat) : Int)), a5']) ∧
  (¬ AllDigits ds → ∃ E, forN (gName 5) m_int_of_b1 (ds.map fun c => D.str (S [c])) [v0, v1, v2, v3, .im (.int (n : Int)), a5] = .er "NoText" E)
 | [], n, k, a5, _, _ => ⟨fun _ => ⟨a5, rfl⟩, fun h => (h fun c hc => by cases hc).elim⟩
 | c :: ds, n, k, a5, hn, hk => by
  rw [List.length_cons] at hk
  have le : 10 ^ k ≤ 10 ^ 40 := Nat.pow_le_pow_right (by decide) (by omega)
  have t := int_turn (v0 := v0) (v1 := v1) (v2 := v2) (v3 := v3) (a5 := a5) (n := n) (c := c) (by omega)
  have st : forN (gName 5) m_int_of_b1 ((c :: ds).map fun c => D.str (S [c])) [v0, v1, v2, v3, .im (.int (n : Int)), a5] = nextO (m_int_of_b1 [v0, v1, v2, v3, .im (.int (n : Int)), .im (.str (S [c]))]) (forN (gName 5) m_int_of_b1 (ds.map fun c => D.str (S [c]))) := rfl
  rw [st, t]
  by_cases h : 48 ≤ c ∧ c ≤ 57
  ·rw [if_pos h]
   have ih := int_loop (v0 := v0) (v1 := v1) (v2 := v2) (v3 := v3) ds (n * 10 + (c - 48)) (k + 1) (.im (.str (S [c]))) (by rw [Nat.pow_succ]; omega) (by omega)
   refine ⟨fun hd => ih.1 fun x hx => hd x (List.mem_cons_of_mem _ hx), fun hd => ih.2 fun z => hd fun x hx => ?_⟩
   rcases List.mem_cons.mp hx with rfl | hx
   ·exact h
   ·exact z x hx
  ·rw [if_neg h]
   exact ⟨fun hd => (h (hd c List.mem_cons_self)).elim, fun _ => ⟨_, rfl⟩⟩
theorem log_lt {z : Int} (h : z.natAbs < 10 ^ 50) : z.natAbs.log2 < 1920 := by
 by_cases z0 : z.natAbs = 0
 ·rw [z0]; decide
 ·rw [Nat.log2_lt z0]
  exact Nat.lt_of_lt_of_le h (by decide +kernel)
theorem slice_digs (t : List Nat) : S (cutL t (some (if t.head? = some 45 then 1 else 0)) none) = S (digs t) := by
 unfold digs
 by_cases h : t.head? = some 45
 ·rw [if_pos h, if_pos h, cut1]
 ·rw [if_neg h, if_neg h, cut0]
theorem int_of_ok {t : List Nat} {m : Nat} (hm : m ≤ 40) (hl : t.length ≤ 1000) : m_int_of [.str (S t), .int (m : Int)] = (match intOf m t with
  | some v => .ok (.im (.int v))
  | none => .er "NoText") := by
 have dl : (digs t).length ≤ 1000 := by
  unfold digs
  split
  ·rw [List.length_tail]; omega
  ·exact hl
 have lS : (S t).length ≤ 100000 := by rw [len_S]; omega
 have lD : (S (digs t)).length ≤ 100000 := by rw [len_S]; omega
 unfold m_int_of
 rw [lit_minus, lit_empty]
 walk_at "ev"
 rw [sw_S]
 walk_at "ev"
 rw [cut_S, slice_digs, eqS]
 by_cases d0 : digs t = []
 ·rw [if_pos (by rw [decide_eq_true_eq]; exact d0)]
  walk_at "ev"
  have e : intOf m t = none := if_neg fun z => z.1 d0
  rw [e]
 ·rw [if_neg (by rw [decide_eq_true_eq]; exact d0)]
  walk_at "ev"
  rw [len_S]
  by_cases d40 : m < (digs t).length
  ·rw [if_pos (by omega)]
   walk_at "ev"
   have e : intOf m t = none := if_neg fun z => by have := z.2.1; omega
   rw [e]
  ·rw [if_neg (by omega)]
   walk_at "ev"
   rw [signs_S]
   have lp := int_loop (v0 := .im (.str (S t))) (v1 := .im (.int (m : Int))) (v2 := .im (.bl (decide (t.head? = some 45)))) (v3 := .im (.str (S (digs t)))) (digs t) 0 0 .no (by decide) (by omega)
   rw [show ((0 : Nat) : Int) = 0 from rfl] at lp
   by_cases ad : AllDigits (digs t)
   ·obtain ⟨a5, lp⟩ := lp.1 ad
    have vl := dv_lt _ rfl ad
    have le : 10 ^ (digs t).length ≤ 10 ^ 40 := Nat.pow_le_pow_right (by decide) (by omega)
    rw [show (digs t).foldl (fun acc c => acc * 10 + (c - 48)) 0 = digitsVal (digs t) from rfl] at lp
    have sv : sgnV t = if t.head? = some 45 then -((digitsVal (digs t) : Nat) : Int) else ((digitsVal (digs t) : Nat) : Int) := rfl
    have io : intOf m t = if numZ (sgnV t) = t then some (sgnV t) else none := by
     unfold intOf
     by_cases z : numZ (sgnV t) = t
     ·rw [if_pos z, if_pos ⟨d0, by omega, ad, z⟩]
     ·rw [if_neg z, if_neg fun y => z y.2.2.2]
    rw [io]
    have fin : ∀ v : Int, v = sgnV t → v.natAbs < 10 ^ 50 → (sq (sIf (cNe (eStr (eVar 4)) (eVar 0)) (sq (sRaise "NoText") .nx) .nx) (sq (sRetV 4) .nx)) [.im (.str (S t)), .im (.int (m : Int)), .im (.bl (decide (t.head? = some 45))), .im (.str (S (digs t))), .im (.int v), a5] = if numZ (sgnV t) = t then .rt (.im (.int v)) else .er "NoText" [.im (.str (S t)), .im (.int (m : Int)), .im (.bl (decide (t.head? = some 45))), .im (.str (S (digs t))), .im (.int v), a5] := fun v hv hlt => by
     walk_at "ev"
     rw [ev_strc (log_lt hlt), S_num, hv]
     walk_at "ev"
     rw [eqS]
     by_cases z : numZ (sgnV t) = t
     ·rw [if_pos z, decide_eq_true z]
      walk_at "ev"
     ·rw [if_neg z, decide_eq_false z]
      walk_at "ev"
    have done : m_int_of_r1 [.im (.str (S t)), .im (.int (m : Int)), .im (.bl (decide (t.head? = some 45))), .im (.str (S (digs t))), .im (.int ((digitsVal (digs t) : Nat) : Int)), a5] = (sq (sIf (cNe (eStr (eVar 4)) (eVar 0)) (sq (sRaise "NoText") .nx) .nx) (sq (sRetV 4) .nx)) [.im (.str (S t)), .im (.int (m : Int)), .im (.bl (decide (t.head? = some 45))), .im (.str (S (digs t))), .im (.int (sgnV t)), a5] := by
     rw [sv]
     unfold m_int_of_r1
     generalize sq (sIf (cNe (eStr (eVar 4)) (eVar 0)) (sq (sRaise "NoText") .nx) .nx) (sq (sRetV 4) .nx) = rest
     by_cases hh : t.head? = some 45
     ·rw [decide_eq_true hh, if_pos hh]
      walk_at "ev"
      rw [show (0 : Int) - ((digitsVal (digs t) : Nat) : Int) = -((digitsVal (digs t) : Nat) : Int) by omega]
     ·rw [decide_eq_false hh, if_neg hh]
      walk_at "ev"
    rw [lp, ev_then_nx, done, fin _ rfl (by rw [sv]; split <;> omega)]
    by_cases z : numZ (sgnV t) = t
    ·rw [if_pos z, if_pos z]
     walk_at "ev"
    ·rw [if_neg z, if_neg z]
     rfl
   ·obtain ⟨E, lp⟩ := lp.2 ad
    have e : intOf m t = none := if_neg fun z => ad z.2.2.1
    rw [lp, e]
    rfl
end
section
variable {E : Fr} {m : MX} {v : RV} {d : D} {n : Str} {r r1 r2 ra : Fr → Option Str} {t : Fr → R Bool} {f g : Fr → O} {ff : List D → R Ret} {ma : Fr → R (List D)}
theorem rOf_none (h : m E = .ok v) : rOf m E = none := by unfold rOf; rw [h]
theorem rOf_some (h : m E = .er n) : rOf m E = some n := by unfold rOf; rw [h]
theorem rCons_some (h : r1 E = some n) : rCons r1 m r2 E = some n := by unfold rCons; rw [h]
theorem rCons_next (h : r1 E = none) (k : toD (m E) = .ok d) : rCons r1 m r2 E = r2 E := by unfold rCons; rw [h]; dsimp only; rw [k]
theorem sIfE_er (h : r E = some n) : sIfE r t f g E = .er n E := by unfold sIfE; rw [h]
theorem sIfE_no (h : r E = none) : sIfE r t f g E = sIf t f g E := by unfold sIfE; rw [h]
theorem eCallE_er (h : ra E = some n) : eCallE ff ma ra E = .er n := by unfold eCallE; rw [h]
theorem eCallE_no (h : ra E = none) : eCallE ff ma ra E = eCall ff ma E := by unfold eCallE; rw [h]
end
section
open TL NumText
theorem addS {a b : List Nat} (h : a.length + b.length ≤ 100000) : addV (.ok (.im (.str (S a)))) (.ok (.im (.str (S b)))) = .ok (.im (.str (S (a ++ b)))) := by
 rw [addS_ok (by rw [len_S, len_S, sizeLine_eq]; omega), S_app]
theorem numZ_len {z : Int} (h : z.natAbs < 10 ^ 43) : (numZ z).length ≤ 44 := by
 unfold numZ
 split
 ·have := numL_len (n := z.toNat) (k := 43) (by decide) (by omega)
  omega
 ·have := numL_len (n := (-z).toNat) (k := 43) (by decide) (by omega)
  rw [List.length_cons]
  omega
theorem chR_S {c : Nat} {l : List Nat} (h : (c :: l).length ≤ 100000) : chR (S (c :: l)) 0 = .ok (.im (.str (S [c]))) := by
 have e : atI (S (c :: l)).cps.toList 0 = some c := by
  show atI (c :: l) 0 = some c
  unfold atI ixN
  rw [if_pos (by decide), if_pos (by rw [List.length_cons]; omega)]
  rfl
 unfold chR
 rw [e]
 dsimp only
 rw [if_pos (by rw [len_S, sizeLine_eq]; omega)]
 rfl
end
section
open TL NumText
theorem lit_w : ("w" : Str) = S [119] := by apply ext_tl; rfl
theorem lit_sp : (" " : Str) = S [32] := by apply ext_tl; rfl
theorem lit_abc : ("abc" : Str) = S [97, 98, 99] := by apply ext_tl; rfl
theorem lit_a : ("a" : Str) = S [97] := by apply ext_tl; rfl
theorem lit_b : ("b" : Str) = S [98] := by apply ext_tl; rfl
theorem lit_c : ("c" : Str) = S [99] := by apply ext_tl; rfl
def finD (c : Nat) (r a : List Nat) (w : Int) : Option P4 := match intOf 12 r with
 | none => none
 | some x => (match intOf 12 a with
  | none => none
  | some y => some (x, y, ((c - 97 : Nat) : Int), w))
def wgtD (c : Nat) (r a : List Nat) : Option (List Nat) → Option P4
 | none => finD c r a 1
 | some h => (match intOf 9 h with
  | none => none
  | some w => if w < 2 then none else finD c r a w)
def readDot : List Nat → Option P4
 | [] => none
 | c :: t => if 97 ≤ c ∧ c ≤ 99 then (match cutAt 58 t with
  | none => none
  | some (r, u) => (match cutAt 119 u with
   | none => wgtD c r u none
   | some (a, h) => wgtD c r a (some h))) else none
theorem index_abc {c : Nat} (h : 97 ≤ c ∧ c ≤ 99) : indexR (S [97, 98, 99]) (S [c]) = .ok (.im (.int ((c - 97 : Nat) : Int))) := by
 have all : ∀ d : Nat, d < 3 → Builtin.Str.occurrences (S [97, 98, 99]) (S [97 + d]) 0 (S [97, 98, 99]).length 1 = [d] := by decide +kernel
 have := all (c - 97) (by omega)
 rw [show 97 + (c - 97) = c by omega] at this
 unfold indexR
 rw [this]
theorem eTupE_er {ma : Fr → R (List D)} {ra : Fr → Option Str} {E : Fr} {n : Str} (h : ra E = some n) : eTupE ma ra E = .er n := by unfold eTupE; rw [h]
theorem eTupE_no {ma : Fr → R (List D)} {ra : Fr → Option Str} {E : Fr} (h : ra E = none) : eTupE ma ra E = eTup ma E := by unfold eTupE; rw [h]
theorem ret_er {m : MX} {f : Fr → O} {E : Fr} {n : Str} (h : m E = .er n) : sq (sRet m) f E = .er n E := by
 rw [ev_sq]
 unfold sRet onV
 rw [h]
 rfl
def ioR : Option Int → R Ret
 | some v => .ok (.im (.int v))
 | none => .er "NoText"
theorem io_ok {t : List Nat} {m : Nat} (hm : m ≤ 40) (hl : t.length ≤ 1000) : m_int_of [.str (S t), .int (m : Int)] = ioR (intOf m t) := by
 rw [int_of_ok hm hl]
 cases intOf m t <;> rfl
theorem dot_r1 {c : Nat} {t r a : List Nat} {w : Int} {v2 v3 v5 v6 : Sl} (hc : 97 ≤ c ∧ c ≤ 99) (hl : (c :: t).length ≤ 800) (hr : r.length ≤ 800) (ha : a.length ≤ 800) :
  m_read_dot_r1 [.im (.str (S (c :: t))), .im (.str (S r)), v2, v3, .im (.str (S a)), v5, v6, .im (.int w)] = (match finD c r a w with
   | some p => .rt (.im (q4 p))
   | none => .er "NoText" [.im (.str (S (c :: t))), .im (.str (S r)), v2, v3, .im (.str (S a)), v5, v6, .im (.int w)]) := by
 have i1 := io_ok (t := r) (m := 12) (by decide) (by omega)
 have i2 := io_ok (t := a) (m := 12) (by decide) (by omega)
 rw [show ((12 : Nat) : Int) = 12 from rfl] at i1 i2
 have ch := chR_S (c := c) (l := t) (by omega)
 have ix := index_abc hc
 have lS : (S (c :: t)).length ≤ 100000 := by rw [len_S]; omega
 unfold m_read_dot_r1 finD
 rw [lit_abc]
 generalize m_int_of = mi at i1 i2 ⊢
 obtain ⟨E, hE⟩ : ∃ E : Fr, E = [.im (.str (S (c :: t))), .im (.str (S r)), v2, v3, .im (.str (S a)), v5, v6, .im (.int w)] := ⟨_, rfl⟩
 have c1 : eCall mi (aCons (eVar 1) (aCons (eC (.int 12)) aNil)) E = retV (ioR (intOf 12 r)) := by
  rw [hE, ← i1]
  walk_at "ev"
 have c2 : eCall mi (aCons (eVar 4) (aCons (eC (.int 12)) aNil)) E = retV (ioR (intOf 12 a)) := by
  rw [hE, ← i2]
  walk_at "ev"
 have c3 : eIndex (eC (.str (S [97, 98, 99]))) (eIx (eVar 0) (eC (.int 0))) E = .ok (.im (.int ((c - 97 : Nat) : Int))) := by
  rw [hE]
  walk_at "ev"
  rw [ch]
  walk_at "ev"
  exact ix
 have c4 : eVar 7 E = .ok (.im (.int w)) := by rw [hE]; rfl
 rw [← hE]
 clear hE i1 i2
 generalize eCall mi (aCons (eVar 1) (aCons (eC (.int 12)) aNil)) = m1 at c1 ⊢
 generalize eCall mi (aCons (eVar 4) (aCons (eC (.int 12)) aNil)) = m2 at c2 ⊢
 generalize eIndex (eC (.str (S [97, 98, 99]))) (eIx (eVar 0) (eC (.int 0))) = m3 at c3 ⊢
 generalize eVar 7 = m4 at c4 ⊢
 cases q1 : intOf 12 r with
 | none =>
  rw [q1] at c1
  exact ret_er (eTupE_er (rCons_some (rOf_some c1)))
 | some x =>
  rw [q1] at c1
  dsimp only
  rw [show retV (ioR (some x)) = .ok (.im (.int x)) from rfl] at c1
  cases q2 : intOf 12 a with
  | none =>
   rw [q2] at c2
   exact ret_er (eTupE_er ((rCons_next (m := m1) (d := .int x) (rOf_none c1) (by rw [c1]; rfl)).trans (rCons_some (rOf_some c2))))
  | some y =>
   rw [q2] at c2
   rw [show retV (ioR (some y)) = .ok (.im (.int y)) from rfl] at c2
   have rr := (rCons_next (m := m1) (r2 := rCons (rOf m2) m2 (rCons rNil m3 (rCons rNil m4 rNil))) (d := .int x) (rOf_none c1) (by rw [c1]; rfl)).trans ((rCons_next (m := m2) (d := .int y) (rOf_none c2) (by rw [c2]; rfl)).trans ((rCons_next (r1 := rNil) (m := m3) (d := .int ((c - 97 : Nat) : Int)) rfl (by rw [c3]; rfl)).trans ((rCons_next (r1 := rNil) (r2 := rNil) (m := m4) (d := .int w) rfl (by rw [c4]; rfl)).trans rfl)))
   walk_at "ev"
   rw [eTupE_no rr]
   walk_at "ev"
   rw [c1, c2, c3, c4]
   walk_at "ev"
   rfl
theorem dot_r2_no {c : Nat} {t r a : List Nat} {v2 v3 : Sl} (hc : 97 ≤ c ∧ c ≤ 99) (hl : (c :: t).length ≤ 800) (hr : r.length ≤ 800) (ha : a.length ≤ 800) :
  (∀ p, wgtD c r a none = some p → m_read_dot_r2 [.im (.str (S (c :: t))), .im (.str (S r)), v2, v3, .im (.str (S a)), .im (.str (S [])), .im (.str (S [])), .no] = .rt (.im (q4 p))) ∧
  (wgtD c r a none = none → ∃ E, m_read_dot_r2 [.im (.str (S (c :: t))), .im (.str (S r)), v2, v3, .im (.str (S a)), .im (.str (S [])), .im (.str (S [])), .no] = .er "NoText" E) := by
 have k := dot_r1 (v2 := v2) (v3 := v3) (v5 := .im (.str (S []))) (v6 := .im (.str (S []))) (w := 1) hc hl hr ha
 have e : m_read_dot_r2 [.im (.str (S (c :: t))), .im (.str (S r)), v2, v3, .im (.str (S a)), .im (.str (S [])), .im (.str (S [])), .no] = m_read_dot_r1 [.im (.str (S (c :: t))), .im (.str (S r)), v2, v3, .im (.str (S a)), .im (.str (S [])), .im (.str (S [])), .im (.int 1)] := by
  unfold m_read_dot_r2
  generalize m_read_dot_r1 = mr
  rw [lit_w]
  walk_at "ev"
  rw [eqS]
  walk_at "ev"
  rw [if_neg (by simp)]
 rw [e, k]
 unfold wgtD
 dsimp only
 refine ⟨fun p q => by rw [q], fun q => ⟨[.im (.str (S (c :: t))), .im (.str (S r)), v2, v3, .im (.str (S a)), .im (.str (S [])), .im (.str (S [])), .im (.int 1)], by rw [q]⟩⟩
theorem dot_r2_w {c : Nat} {t r a h : List Nat} {v2 v3 : Sl} (hc : 97 ≤ c ∧ c ≤ 99) (hl : (c :: t).length ≤ 800) (hr : r.length ≤ 800) (ha : a.length ≤ 800) (hh : h.length ≤ 800) :
  (∀ p, wgtD c r a (some h) = some p → m_read_dot_r2 [.im (.str (S (c :: t))), .im (.str (S r)), v2, v3, .im (.str (S a)), .im (.str (S [119])), .im (.str (S h)), .no] = .rt (.im (q4 p))) ∧
  (wgtD c r a (some h) = none → ∃ E, m_read_dot_r2 [.im (.str (S (c :: t))), .im (.str (S r)), v2, v3, .im (.str (S a)), .im (.str (S [119])), .im (.str (S h)), .no] = .er "NoText" E) := by
 have k := fun w => dot_r1 (v2 := v2) (v3 := v3) (v5 := .im (.str (S [119]))) (v6 := .im (.str (S h))) (w := w) hc hl hr ha
 have io := io_ok (t := h) (m := 9) (by decide) (by omega)
 rw [show ((9 : Nat) : Int) = 9 from rfl] at io
 obtain ⟨G, hG⟩ : ∃ G : Int → Fr, G = fun w => [.im (.str (S (c :: t))), .im (.str (S r)), v2, v3, .im (.str (S a)), .im (.str (S [119])), .im (.str (S h)), .im (.int w)] := ⟨_, rfl⟩
 have e : m_read_dot_r2 [.im (.str (S (c :: t))), .im (.str (S r)), v2, v3, .im (.str (S a)), .im (.str (S [119])), .im (.str (S h)), .no] = (match intOf 9 h with
   | none => .er "NoText" (G 1)
   | some w => if w < 2 then .er "NoText" (G w) else m_read_dot_r1 (G w)) := by
  unfold m_read_dot_r2
  generalize m_read_dot_r1 = mr
  generalize m_int_of = mi at io ⊢
  rw [lit_w, hG]
  walk_at "ev"
  rw [eqS]
  walk_at "ev"
  rw [io]
  cases q : intOf 9 h with
  | none => rfl
  | some w =>
   rw [show ioR (some w) = .ok (.im (.int w)) from rfl]
   walk_at "ev"
 rw [e]
 unfold wgtD
 dsimp only
 cases q : intOf 9 h with
 | none => exact ⟨(fun p q => by cases q), fun _ => ⟨_, rfl⟩⟩
 | some w =>
  dsimp only
  by_cases z : w < 2
  ·rw [if_pos z, if_pos z]
   exact ⟨(fun p q => by cases q), fun _ => ⟨_, rfl⟩⟩
  ·rw [if_neg z, if_neg z, hG]
   dsimp only
   rw [k w]
   exact ⟨fun p q => by rw [q], fun q => ⟨[.im (.str (S (c :: t))), .im (.str (S r)), v2, v3, .im (.str (S a)), .im (.str (S [119])), .im (.str (S h)), .im (.int w)], by rw [q]⟩⟩
theorem hd1 (t : List Nat) : cutL t none (some 1) = t.take 1 := by
 unfold cutL
 cases t with
 | nil => rfl
 | cons x t =>
  have e1 : HT.sIx (x :: t).length (x :: t).length (some 1) = 1 := by unfold HT.sIx; simp
  have e2 : HT.sIx (x :: t).length 0 none = 0 := rfl
  rw [e1, e2]
  rfl
theorem dot_start {t r s u a m h : List Nat} (hl : t.length ≤ 700) (hu : u.length ≤ 700) (e1 : Txt.partition (S t.tail) (S [58]) = (S r, S s, S u)) (e2 : Txt.partition (S u) (S [119]) = (S a, S m, S h)) :
  m_read_dot [.str (S t)] = retO (if (t.take 1 = [97] ∨ t.take 1 = [98] ∨ t.take 1 = [99]) ∧ s ≠ [] then m_read_dot_r2 [.im (.str (S t)), .im (.str (S r)), .im (.str (S s)), .im (.str (S u)), .im (.str (S a)), .im (.str (S m)), .im (.str (S h)), .no] else .er "NoText" [.im (.str (S t)), .im (.str (S r)), .im (.str (S s)), .im (.str (S u)), .im (.str (S a)), .im (.str (S m)), .im (.str (S h)), .no]) := by
 have lS : (S t).length ≤ 100000 := by rw [len_S]; omega
 have lU : (S u).length ≤ 100000 := by rw [len_S]; omega
 have p1 : ((S [58]).length == 0) = false := rfl
 have p2 : ((S [119]).length == 0) = false := rfl
 have lT : (S t.tail).length ≤ 100000 := by rw [len_S, List.length_tail]; omega
 unfold m_read_dot
 generalize m_read_dot_r2 = mr
 rw [lit_colon, lit_w, lit_empty, lit_a, lit_b, lit_c]
 walk_at "ev"
 rw [cut_S, cut1]
 walk_at "ev"
 rw [e1]
 walk_at "ev"
 rw [e2]
 dsimp only
 have e4 : inTR (.ok (.str (cutS (S t) none (some 1)))) (.ok (.tup [.str (S [97]), .str (S [98]), .str (S [99])])) = .ok (decide (t.take 1 = [97] ∨ t.take 1 = [98] ∨ t.take 1 = [99])) := by
  rw [cut_S, hd1]
  show R.ok (decide (S (t.take 1) ∈ [S [97], S [98], S [99]])) = _
  congr 1
  rw [decide_eq_decide]
  have q : ∀ x y : List Nat, S x = S y ↔ x = y := fun x y => ⟨S_inj, fun e => by rw [e]⟩
  simp only [List.mem_cons, List.not_mem_nil, or_false, q]
 rw [e4]
 by_cases z : t.take 1 = [97] ∨ t.take 1 = [98] ∨ t.take 1 = [99]
 ·rw [decide_eq_true z]
  walk_at "ev"
  rw [eqS]
  by_cases y : s = []
  ·rw [decide_eq_true y]
   walk_at "ev"
   rw [if_neg (fun k => k.2 y)]
  ·rw [decide_eq_false y]
   walk_at "ev"
   rw [if_pos ⟨z, y⟩]
 ·rw [decide_eq_false z]
  walk_at "ev"
  rw [if_neg (fun k => z k.1)]
theorem take_abc {t : List Nat} : (t.take 1 = [97] ∨ t.take 1 = [98] ∨ t.take 1 = [99]) ↔ ∃ c r, t = c :: r ∧ 97 ≤ c ∧ c ≤ 99 := by
 cases t with
 | nil => simp
 | cons c r =>
  simp only [List.take_succ_cons, List.take_zero, List.cons.injEq, and_true]
  constructor
  ·intro h
   exact ⟨c, r, ⟨rfl, rfl⟩, by omega⟩
  ·rintro ⟨c', r', ⟨e1, e2⟩, h⟩
   omega
theorem read_dot_ok {t : List Nat} (hl : t.length ≤ 700) : (∀ p, readDot t = some p → m_read_dot [.str (S t)] = .ok (.im (q4 p))) ∧ (readDot t = none → m_read_dot [.str (S t)] = .er "NoText") := by
 have pt := part_S 58 t.tail
 have lt : t.tail.length ≤ 700 := by rw [List.length_tail]; omega
 cases q : cutAt 58 t.tail with
 | none =>
  rw [q] at pt
  dsimp only at pt
  have e2 : Txt.partition (S []) (S [119]) = (S [], S [], S []) := by
   rw [part_S]; rfl
  have st := dot_start hl (by decide) pt e2
  rw [if_neg (fun k => k.2 rfl)] at st
  have n : readDot t = none := by
   cases t with
   | nil => rfl
   | cons c r =>
    rw [List.tail_cons] at q
    unfold readDot
    dsimp only
    rw [q]
    dsimp only
    split <;> rfl
  rw [n, st]
  exact ⟨(fun p z => by cases z), fun _ => rfl⟩
 | some ru =>
  obtain ⟨r, u⟩ := ru
  rw [q] at pt
  dsimp only at pt
  obtain ⟨eu, _⟩ := cutAt_some q
  have lens := congrArg List.length eu
  rw [List.length_append, List.length_cons] at lens
  by_cases z : t.take 1 = [97] ∨ t.take 1 = [98] ∨ t.take 1 = [99]
  ·obtain ⟨c, t', rfl, hc⟩ := take_abc.1 z
   rw [List.tail_cons] at q lens lt
   have pu := part_S 119 u
   cases q2 : cutAt 119 u with
   | none =>
    rw [q2] at pu
    dsimp only at pu
    have st := dot_start hl (by omega) pt pu
    rw [if_pos ⟨z, by simp⟩] at st
    have rd : readDot (c :: t') = wgtD c r u none := by
     unfold readDot
     dsimp only
     rw [if_pos hc, q]
     dsimp only
     rw [q2]
    obtain ⟨k1, k2⟩ := dot_r2_no (v2 := .im (.str (S [58]))) (v3 := .im (.str (S u))) (t := t') (r := r) (a := u) hc (by omega) (by omega) (by omega)
    rw [rd, st]
    refine ⟨fun p w => by rw [k1 p w]; rfl, fun w => ?_⟩
    obtain ⟨E, k⟩ := k2 w
    rw [k]
    rfl
   | some ah =>
    obtain ⟨a, h⟩ := ah
    rw [q2] at pu
    dsimp only at pu
    obtain ⟨eu2, _⟩ := cutAt_some q2
    have lens2 := congrArg List.length eu2
    rw [List.length_append, List.length_cons] at lens2
    have st := dot_start hl (by omega) pt pu
    rw [if_pos ⟨z, by simp⟩] at st
    have rd : readDot (c :: t') = wgtD c r a (some h) := by
     unfold readDot
     dsimp only
     rw [if_pos hc, q]
     dsimp only
     rw [q2]
    obtain ⟨k1, k2⟩ := dot_r2_w (v2 := .im (.str (S [58]))) (v3 := .im (.str (S u))) (t := t') (r := r) (a := a) (h := h) hc (by omega) (by omega) (by omega) (by omega)
    rw [rd, st]
    refine ⟨fun p w => by rw [k1 p w]; rfl, fun w => ?_⟩
    obtain ⟨E, k⟩ := k2 w
    rw [k]
    rfl
  ·have pu := part_S 119 u
   have n : readDot t = none := by
    cases t with
    | nil => rfl
    | cons c r =>
     unfold readDot
     exact if_neg fun k => z (take_abc.2 ⟨c, r, rfl, k⟩)
   obtain ⟨a, m, h, e2⟩ : ∃ a m h, Txt.partition (S u) (S [119]) = (S a, S m, S h) := by
    rw [pu]
    split
    ·exact ⟨_, _, _, rfl⟩
    ·exact ⟨_, _, _, rfl⟩
   have st := dot_start hl (by omega) pt e2
   rw [if_neg (fun k => z k.1)] at st
   rw [n, st]
   exact ⟨(fun p z => by cases z), fun _ => rfl⟩
end
section
open TL NumText
structure DotOk (p : P4) : Prop where
 x : p.1.natAbs < 10 ^ 12
 y : p.2.1.natAbs < 10 ^ 12
 c : 0 ≤ p.2.2.1 ∧ p.2.2.1 ≤ 2
 w : 1 ≤ p.2.2.2 ∧ p.2.2.2 < 10 ^ 9
def wtail (w : Int) : List Nat := if 1 < w then 119 :: numZ w else []
def showDot (p : P4) : List Nat := (97 + p.2.2.1.toNat) :: (numZ p.1 ++ 58 :: (numZ p.2.1 ++ wtail p.2.2.2))
theorem read_show {p : P4} (h : DotOk p) : readDot (showDot p) = some p := by
 obtain ⟨x, y, c, w⟩ := p
 obtain ⟨h1, h2, h3, h4⟩ := h
 dsimp only at h1 h2 h3 h4
 have c1 : cutAt 58 (numZ x ++ 58 :: (numZ y ++ wtail w)) = some (numZ x, numZ y ++ wtail w) := cutAt_app (numZ_free (by omega))
 have ix := intOf_num (m := 12) (by decide) h1
 have iy := intOf_num (m := 12) (by decide) h2
 have fin : finD (97 + c.toNat) (numZ x) (numZ y) w = some (x, y, c, w) := by
  unfold finD
  rw [ix, iy]
  dsimp only
  rw [show ((97 + c.toNat - 97 : Nat) : Int) = c by omega]
 unfold readDot showDot
 dsimp only
 rw [if_pos (by omega), c1]
 dsimp only
 unfold wtail
 by_cases hw : 1 < w
 ·rw [if_pos hw, cutAt_app (numZ_free (by omega))]
  dsimp only
  unfold wgtD
  dsimp only
  rw [intOf_num (m := 9) (by decide) (by omega)]
  dsimp only
  rw [if_neg (by omega), fin]
 ·rw [if_neg hw, List.append_nil, cutAt_no (numZ_free (by omega))]
  dsimp only
  unfold wgtD
  dsimp only
  have : w = 1 := by omega
  rw [this] at fin ⊢
  exact fin
theorem numZ_12 {z : Int} {m : Nat} (hm : 0 < m) (h : z.natAbs < 10 ^ m) : (numZ z).length ≤ m + 1 := by
 unfold numZ
 split
 ·have := numL_len (n := z.toNat) (k := m) hm (by omega)
  omega
 ·have := numL_len (n := (-z).toNat) (k := m) hm (by omega)
  rw [List.length_cons]
  omega
theorem wtail_len {w : Int} (h : 1 ≤ w ∧ w < 10 ^ 9) : (wtail w).length ≤ 11 := by
 unfold wtail
 split
 ·have := numZ_12 (z := w) (m := 9) (by decide) (by omega)
  rw [List.length_cons]; omega
 ·show 0 ≤ 11; omega
theorem showDot_len {p : P4} (h : DotOk p) : (showDot p).length ≤ 39 := by
 have a := numZ_12 (m := 12) (by decide) h.x
 have b := numZ_12 (m := 12) (by decide) h.y
 have c := wtail_len h.w
 unfold showDot
 rw [List.length_cons, List.length_append, List.length_cons, List.length_append]
 omega
theorem showDot_sp {p : P4} (h : DotOk p) : 32 ∉ showDot p ∧ showDot p ≠ [] := by
 refine ⟨fun m => ?_, by unfold showDot; simp⟩
 unfold showDot at m
 have hc := h.c
 rcases List.mem_cons.mp m with m | m
 ·omega
 ·rcases List.mem_append.mp m with m | m
  ·exact numZ_free (by omega) m
  ·rcases List.mem_cons.mp m with m | m
   ·omega
   ·rcases List.mem_append.mp m with m | m
    ·exact numZ_free (by omega) m
    ·unfold wtail at m
     split at m
     ·rcases List.mem_cons.mp m with m | m
      ·omega
      ·exact numZ_free (by omega) m
     ·cases m
theorem chR_abc {c : Int} (h : 0 ≤ c ∧ c ≤ 2) : chR (S [97, 98, 99]) c = .ok (.im (.str (S [97 + c.toNat]))) := by
 rcases (show c = 0 ∨ c = 1 ∨ c = 2 by omega) with rfl | rfl | rfl <;> rfl
theorem show_ok {p : P4} (h : DotOk p) : m_show_dot [q4 p] = .ok (.im (.str (S (showDot p)))) := by
 obtain ⟨x, y, c, w⟩ := p
 have a := numZ_12 (m := 12) (by decide) h.x
 have b := numZ_12 (m := 12) (by decide) h.y
 have lx := log_lt (z := x) (Nat.lt_of_lt_of_le h.x (by decide +kernel))
 have ly := log_lt (z := y) (Nat.lt_of_lt_of_le h.y (by decide +kernel))
 have hw := h.w
 dsimp only at hw
 have d := numZ_12 (z := w) (m := 9) (by decide) (by omega)
 have lw := log_lt (z := w) (by omega)
 have cc := chR_abc h.c
 dsimp only at a b lx ly cc
 have sx := S_num x
 have sy := S_num y
 have sw := S_num w
 unfold m_show_dot showDot q4 wtail
 rw [lit_abc, lit_colon, lit_w]
 dsimp only
 generalize numZ x = X at *
 generalize numZ y = Y at *
 generalize numZ w = W at *
 generalize 97 + c.toNat = k at *
 have s1 := addS (a := [k]) (b := X) (by rw [List.length_singleton]; omega)
 have s2 := addS (a := [k] ++ X) (b := [58]) (by rw [List.length_append, List.length_singleton, List.length_singleton]; omega)
 have s3 := addS (a := [k] ++ X ++ [58]) (b := Y) (by rw [List.length_append, List.length_append, List.length_singleton, List.length_singleton]; omega)
 have s4 := addS (a := k :: (X ++ 58 :: Y)) (b := [119]) (by simp only [List.length_append, List.length_cons, List.length_nil]; omega)
 have s5 := addS (a := k :: (X ++ 58 :: Y) ++ [119]) (b := W) (by simp only [List.length_append, List.length_cons, List.length_nil]; omega)
 walk_at "ev"
 rw [cc]
 walk_at "ev"
 rw [ev_strc lx, ev_strc ly, sx, sy, s1, s2, s3]
 walk_at "ev"
 by_cases q : 1 < w
 ·rw [if_pos q, if_pos q]
  walk_at "ev"
  rw [ev_strc lw, sw, s4, s5]
  walk_at "ev"
 ·rw [if_neg q, if_neg q]
  walk_at "ev"
end
section
open TL NumText
theorem split_S (t : List Nat) : Txt.split (S t) (S [32]) = (spl [32] 0 [] t).map S := by
 have k := split_spl (S t) (S [32]) (by rw [tl_S]; simp) (kind_ok (by decide +kernel))
 rw [tl_S, tl_S] at k
 rw [← k, List.map_map]
 conv => lhs; rw [← List.map_id (Txt.split (S t) (S [32]))]
 apply List.map_congr_left
 intro x _
 exact (S_tl x).symm
theorem join_S (ps : List (List Nat)) : Txt.join (S [32]) (ps.map S) = S (joinL [32] ps) := by
 apply ext_tl
 rw [join_eq, tl_join, tl_S, tl_S, List.map_map]
 congr 1
 conv => rhs; rw [← List.map_id ps]
 apply List.map_congr_left
 intro x _
 rfl
theorem joinL_len {N : Nat} : ∀ {ps : List (List Nat)}, (∀ p ∈ ps, p.length ≤ N) → (joinL [32] ps).length ≤ ps.length * (N + 1)
 | [], _ => Nat.zero_le _
 | [p], h => by
  show p.length ≤ 1 * (N + 1)
  have := h p (by simp)
  omega
 | p :: q :: r, h => by
  show (p ++ ([32] ++ joinL [32] (q :: r))).length ≤ _
  have i := joinL_len (ps := q :: r) fun x hx => h x (List.mem_cons_of_mem _ hx)
  have := h p List.mem_cons_self
  rw [List.length_append, List.length_append, List.length_singleton]
  have e : (p :: q :: r).length * (N + 1) = (q :: r).length * (N + 1) + (N + 1) := by rw [List.length_cons, Nat.succ_mul]
  omega
theorem sum_len {N : Nat} : ∀ {ps : List (List Nat)}, (∀ p ∈ ps, p.length ≤ N) → ((ps.map S).map (·.length)).sum ≤ ps.length * N
 | [], _ => Nat.zero_le _
 | p :: ps, h => by
  have i := sum_len (ps := ps) fun x hx => h x (List.mem_cons_of_mem _ hx)
  have := h p List.mem_cons_self
  rw [List.map_cons, List.map_cons, List.sum_cons, List.length_cons, Nat.succ_mul, len_S]
  omega
theorem strsOf_S : ∀ ps : List (List Nat), strsOf (ps.map fun p => D.str (S p)) = some (ps.map S)
 | [] => rfl
 | p :: ps => by
  rw [List.map_cons, List.map_cons]
  show (strsOf (ps.map fun p => D.str (S p))).map _ = _
  rw [strsOf_S ps]
  rfl
theorem joinR_S {ps : List (List Nat)} (h : ∀ p ∈ ps, p.length ≤ 700) (hl : ps.length ≤ 1000) : joinR (.ok (.str (S [32]))) (.ok (ps.map fun p => D.str (S p))) = .ok (.im (.str (S (joinL [32] ps)))) := by
 have k := sum_len h
 unfold joinR
 dsimp only
 rw [strsOf_S]
 dsimp only
 rw [if_pos (by rw [List.length_map, len_S, List.length_singleton]; omega), join_S]
def wordsL (t : List Nat) : List (List Nat) := if t = [] then [] else spl [32] 0 [] t
end
section
open TL NumText
theorem atR_ints {ns : List Int} {k : Int} (h0 : 0 ≤ k) (h : k < ns.length) : atR (D.ints ns) k = .ok (.im (.int (cellZ ns k))) := atR_ok (ints_atC h0 h)
theorem cell_at_ok {ns : List Int} {k : Int} (h0 : 0 ≤ k) : m_law_cell_at [.lst (D.ints ns), .int k] = .ok (.im (.int (cellZ ns k))) := by
 unfold m_law_cell_at
 walk_at "ev"
 by_cases h : k < ns.length
 ·rw [if_pos h]
  walk_at "ev"
  rw [atR_ints h0 h]
  walk_at "ev"
 ·rw [if_neg h]
  walk_at "ev"
  unfold cellZ
  rw [List.getD_eq_getElem?_getD, List.getElem?_eq_none (by omega)]
  rfl
theorem stream_ok {c many : Int} (h1 : 0 ≤ many ∧ many ≤ 100) : ∃ ns, m_law_stream [.int c, .int many] = .ok (.fr (D.ints ns)) ∧ ns.length = many.toNat ∧ ∀ z ∈ ns, 0 ≤ z ∧ z < 1000000000 := by
 obtain ⟨h1, h2⟩ := h1
 unfold m_law_stream
 walk_at "ev"
 obtain ⟨E, k1, ns, k, a, k2, k3, k4, k5⟩ := forN_rng (g := gName 4) (f := m_law_stream_b1)
  (fun i E => ∃ ns k a, E = [.im (.int c), .im (.int many), .ow (D.ints ns), .im (.int k), a] ∧ ns.length = i ∧ (0 ≤ k ∧ k < 4294967296) ∧ ∀ z ∈ ns, 0 ≤ z ∧ z < 1000000000) 0 many.toNat [.im (.int c), .im (.int many), .ow [], .im (.int (c % 2147483647 + 48271)), .no]
  (fun i E hi ⟨ns, k, a, e, k3, k4, k5⟩ => by
   subst e
   refine ⟨_, rfl, ?_⟩
   have hn : ns.length ≤ 1000 := by omega
   have sk : Sz 40 k := .of_lt 4294967296 (by omega) (by decide)
   have sx : Sz 10 (0 + (i : Int)) := .of_lt 1000 (by omega) (by decide)
   unfold m_law_stream_b1
   walk_at "ev"
   rw [ints_snoc]
   refine ⟨_, .inl rfl, _, _, _, rfl, ?_, ?_, all_snoc k5 ?_⟩
   ·rw [List.length_append, k3, List.length_cons, List.length_nil]
   ·omega
   ·omega) ⟨[], _, _, rfl, rfl, by omega, fun z hz => by cases hz⟩
 subst k2
 refine ⟨ns, ?_, k3, k5⟩
 rw [k1]
 walk_at "ev"
theorem ev_join {ma mb : MX} {E : Fr} : eJoin ma mb E = joinR (toD (ma E)) (toL (mb E)) := rfl
theorem show_dots_ok {ps : List P4} (h : ∀ p ∈ ps, DotOk p) (hl : ps.length ≤ 100) : m_show_dots [.lst (D.quads ps)] = .ok (.im (.str (S (joinL [32] (ps.map showDot))))) := by
 have sh := fun p hp => show_ok (h p hp)
 unfold m_show_dots
 rw [lit_sp]
 generalize m_show_dot = ms at sh ⊢
 walk_at "ev"
 rw [ev_join]
 walk_at "ev"
 rw [show D.quads ps = ps.map q4 from rfl, lcN_all (v := fun p => D.str (S (showDot p))) (fun p hp => by
  have := sh p hp
  walk_at "ev"
  rw [this]
  walk_at "ev")]
 walk_at "ev"
 have jr := joinR_S (ps := ps.map showDot) (fun w hw => by
  obtain ⟨p, hp, rfl⟩ := List.mem_map.1 hw
  have := showDot_len (h p hp)
  omega) (by rw [List.length_map]; omega)
 rw [List.map_map] at jr
 show retO ((retMV (joinR _ (.ok (ps.map ((fun p => D.str (S p)) ∘ showDot)))) _).then _) = _
 rw [jr]
 walk_at "ev"
end
section
open TL NumText
theorem words_join {ws : List (List Nat)} (h : ∀ w ∈ ws, 32 ∉ w) (n : 2 ≤ ws.length ∨ ∀ w ∈ ws, w ≠ []) : wordsL (joinL [32] ws) = ws := by
 unfold wordsL
 match ws, h, n with
 | [], _, _ => exact if_pos rfl
 | [p], h, n =>
  have hp : p ≠ [] := by
   rcases n with n | n
   ·exact absurd n (by show ¬ 2 ≤ 1; omega)
   ·exact n p List.mem_cons_self
  rw [if_neg (show joinL [32] [p] ≠ [] from hp)]
  exact spl_join (by simp) h
 | p :: q :: r, h, n =>
  rw [if_neg (by show p ++ ([32] ++ joinL [32] (q :: r)) ≠ []; simp)]
  exact spl_join (by simp) h
end
section
open TL NumText
theorem word_ok {p : P4} (h : DotOk p) : m_law_word [q4 p] = .ok (.im (.str (S (showDot p)))) := by
 obtain ⟨x, y, c, w⟩ := p
 have a := numZ_12 (m := 12) (by decide) h.x
 have b := numZ_12 (m := 12) (by decide) h.y
 have lx := log_lt (z := x) (Nat.lt_of_lt_of_le h.x (by decide +kernel))
 have ly := log_lt (z := y) (Nat.lt_of_lt_of_le h.y (by decide +kernel))
 have hw := h.w
 dsimp only at hw
 have d := numZ_12 (z := w) (m := 9) (by decide) (by omega)
 have lw := log_lt (z := w) (by omega)
 have cc := chR_abc h.c
 dsimp only at a b lx ly cc
 have sx := S_num x
 have sy := S_num y
 have sw := S_num w
 unfold m_law_word showDot q4 wtail
 rw [lit_abc, lit_colon, lit_w]
 dsimp only
 generalize numZ x = X at *
 generalize numZ y = Y at *
 generalize numZ w = W at *
 generalize 97 + c.toNat = k at *
 have s1 := addS (a := [k]) (b := X) (by rw [List.length_singleton]; omega)
 have s2 := addS (a := [k] ++ X) (b := [58]) (by rw [List.length_append, List.length_singleton, List.length_singleton]; omega)
 have s3 := addS (a := [k] ++ X ++ [58]) (b := Y) (by rw [List.length_append, List.length_append, List.length_singleton, List.length_singleton]; omega)
 have s4 := addS (a := k :: (X ++ 58 :: Y)) (b := [119]) (by simp only [List.length_append, List.length_cons, List.length_nil]; omega)
 have s5 := addS (a := k :: (X ++ 58 :: Y) ++ [119]) (b := W) (by simp only [List.length_append, List.length_cons, List.length_nil]; omega)
 walk_at "ev"
 rw [cc]
 walk_at "ev"
 rw [ev_strc lx, ev_strc ly, sx, sy, s1, s2, s3]
 walk_at "ev"
 by_cases q : 1 < w
 ·rw [if_neg (by omega), if_pos q]
  walk_at "ev"
  rw [ev_strc lw, sw, s4, s5]
  walk_at "ev"
 ·rw [if_pos (by omega), if_neg q]
  walk_at "ev"
end
theorem forN_stop {α : Type} {enc : α → D} {g : D → R (List (Nat × D))} {f : Fr → O} (Iv : Fr → Prop) (good : α → Bool) (stop : O → Prop) (hs : ∀ o k, stop o → nextO o k = o) :
  ∀ (xs : List α) (E : Fr), (∀ E x, x ∈ xs → Iv E → ∃ ss, g (enc x) = .ok ss ∧ ((good x = true ∧ ∃ E', (f (setsF E ss) = .nx E' ∨ f (setsF E ss) = .ct E') ∧ Iv E') ∨ (good x = false ∧ stop (f (setsF E ss))))) → Iv E →
   (xs.all good = true ∧ ∃ E', forN g f (xs.map enc) E = .nx E' ∧ Iv E') ∨ (xs.all good = false ∧ stop (forN g f (xs.map enc) E))
 | [], E, _, i => .inl ⟨rfl, E, rfl, i⟩
 | x :: xs, E, h, i => by
  obtain ⟨ss, h1, h2⟩ := h E x List.mem_cons_self i
  rw [List.map_cons, forN, h1, List.all_cons]
  dsimp only
  rcases h2 with ⟨g1, E1, g2, g3⟩ | ⟨g1, g2⟩
  ·rw [g1, Bool.true_and]
   have r := forN_stop Iv good stop hs xs E1 (fun E y hy iv => h E y (List.mem_cons_of_mem _ hy) iv) g3
   rcases g2 with g2 | g2 <;> rw [g2] <;> exact r
  ·rw [g1, hs _ _ g2]
   exact .inr ⟨rfl, g2⟩
def nearZ (z : Int) : Bool := decide ((z.natAbs : Int) < 1000000000000)
theorem nearZ_iff {z : Int} : nearZ z = true ↔ -1000000000000 < z ∧ z < 1000000000000 := by unfold nearZ; rw [decide_eq_true_eq]; omega
theorem nearZ_sz {z : Int} (h : nearZ z = true) : Sz 42 z := .of_lt 1000000000000 (by have := nearZ_iff.1 h; omega) (by decide +kernel)
theorem is_whole_int (z : Int) : m_is_whole [.int z] = .ok (.im (.bl true)) := by
 unfold m_is_whole
 walk_at "ev"
 simp only [D.isBl]
 walk_at "ev"
theorem is_whole_bl (b : Bool) : m_is_whole [.bl b] = .ok (.im (.bl false)) := by
 unfold m_is_whole
 walk_at "ev"
 cases b <;> simp only [D.isBl] <;> walk_at "ev" <;> rfl
theorem is_whole_non : m_is_whole [.non] = .ok (.im (.bl false)) := by
 unfold m_is_whole
 walk_at "ev"
 simp only [D.isBl]
 walk_at "ev"
theorem is_whole_str (s : Str) : m_is_whole [.str s] = .ok (.im (.bl false)) := by
 unfold m_is_whole
 walk_at "ev"
 simp only [D.isBl]
 walk_at "ev"
theorem is_near_int (z : Int) : m_is_near [.int z] = .ok (.im (.bl (nearZ z))) := by
 unfold m_is_near nearZ
 have hw := is_whole_int
 generalize m_is_whole = mw at hw ⊢
 walk_at "ev"
 rw [hw]
 walk_at "ev"
theorem is_near_bl (b : Bool) : m_is_near [.bl b] = .ok (.im (.bl false)) := by
 unfold m_is_near
 walk_at "ev"
 rw [is_whole_bl]
 walk_at "ev"
theorem is_near_non : m_is_near [.non] = .ok (.im (.bl false)) := by
 unfold m_is_near
 walk_at "ev"
 rw [is_whole_non]
 walk_at "ev"
theorem is_near_str (s : Str) : m_is_near [.str s] = .ok (.im (.bl false)) := by
 unfold m_is_near
 walk_at "ev"
 rw [is_whole_str]
 walk_at "ev"
def CW (q : P4) : Prop := (0 ≤ q.2.2.1 ∧ q.2.2.1 < 3) ∧ 1 ≤ q.2.2.2 ∧ q.2.2.2 < 1000000000
def nearQ (q : P4) : Bool := nearZ q.1 && nearZ q.2.1
theorem is_dot_near {a b : D} {c d : D} {p r : Bool} (h1 : m_is_near [a] = .ok (.im (.bl p))) (h2 : m_is_near [b] = .ok (.im (.bl r))) (h3 : m_is_whole [c] = .ok (.im (.bl true))) (h4 : m_is_whole [d] = .ok (.im (.bl true))) :
  m_is_dot_r2 [.im (.tup [a, b, c, d])] = if (p && r) = true then m_is_dot_r1 [.im (.tup [a, b, c, d])] else .rt (.im (.bl false)) := by
 unfold m_is_dot_r2
 generalize m_is_near = mn at h1 h2 ⊢
 generalize m_is_whole = mw at h3 h4 ⊢
 generalize m_is_dot_r1 = mr
 walk_at "ev"
 rw [h1]
 cases p
 ·walk_at "ev"
 ·walk_at "ev"
  rw [h2]
  cases r
  ·walk_at "ev"
  ·walk_at "ev"
   rw [h3]
   walk_at "ev"
   rw [h4]
   walk_at "ev"
theorem is_dot_top {a b c d : D} : m_is_dot [.tup [a, b, c, d]] = retO (m_is_dot_r2 [.im (.tup [a, b, c, d])]) := by
 unfold m_is_dot
 generalize m_is_dot_r2 = mr
 walk_at "ev"
theorem is_dot_end {a b : D} {x y : Int} (a1 : 0 ≤ x) (a2 : x ≤ 2) (b1 : 1 ≤ y) (b2 : y < 1000000000) : m_is_dot_r1 [.im (.tup [a, b, .int x, .int y])] = .rt (.im (.bl true)) := by
 unfold m_is_dot_r1
 walk_at "ev"
 rw [decide_eq_true a1, decide_eq_true a2, decide_eq_true b1, decide_eq_true b2]
 walk_at "ev"
theorem is_dot_ok {q : P4} (h : CW q) : m_is_dot [q4 q] = .ok (.im (.bl (nearQ q))) := by
 unfold q4 nearQ
 rw [is_dot_top, is_dot_near (is_near_int _) (is_near_int _) (is_whole_int _) (is_whole_int _), is_dot_end h.1.1 (by have := h.1.2; omega) h.2.1 h.2.2]
 cases nearZ q.1 && nearZ q.2.1 <;> rfl
theorem made_dots_one {L : Sl} {x : D} {b : Bool} (hd : m_is_dot [x] = .ok (.im (.bl b))) : m_made_dots_b1 [L, .im x] = if b = true then .nx [L, .im x] else .er "NoDots" [L, .im x] := by
 unfold m_made_dots_b1
 generalize m_is_dot = md at hd ⊢
 walk_at "ev"
 rw [hd]
 cases b
 ·walk_at "ev"
 ·walk_at "ev"
theorem made_dots_loop {ds : List P4} (h : ∀ q ∈ ds, CW q) :
 (ds.all nearQ = true ∧ ∃ E, forN (gName 1) m_made_dots_b1 (ds.map q4) [.im (.lst (D.quads ds)), .no] = .nx E ∧ ∃ x, E = [.im (.lst (D.quads ds)), x] ∧ freeB x = true) ∨ (ds.all nearQ = false ∧ ∃ E, forN (gName 1) m_made_dots_b1 (ds.map q4) [.im (.lst (D.quads ds)), .no] = .er "NoDots" E) :=
 forN_stop (enc := q4) (g := gName 1) (f := m_made_dots_b1) (fun E => ∃ x, E = [.im (.lst (D.quads ds)), x] ∧ freeB x = true) nearQ (fun o => ∃ E, o = .er "NoDots" E) (fun o k ⟨E, e⟩ => by subst e; rfl) ds [.im (.lst (D.quads ds)), .no]
  (fun E q hq ⟨x, e, ef⟩ => by
   subst e
   refine ⟨_, rfl, ?_⟩
   walk_at "sets"
   rw [made_dots_one (is_dot_ok (h q hq))]
   cases nearQ q
   ·exact .inr ⟨rfl, _, rfl⟩
   ·exact .inl ⟨rfl, _, .inl rfl, _, rfl, rfl⟩) ⟨_, rfl, rfl⟩
theorem made_dots_ok {ds : List P4} (hl : ds.length ≤ 30) (h : ∀ q ∈ ds, CW q) : (ds.all nearQ = true ∧ m_made_dots [.lst (D.quads ds)] = .ok (.fr (D.quads ds))) ∨ (ds.all nearQ = false ∧ m_made_dots [.lst (D.quads ds)] = .er "NoDots") := by
 have r := made_dots_loop h
 have hl' : ds.length ≤ 1000 := by omega
 have hn : ¬(30 : Int) < (ds.length : Int) := by omega
 unfold m_made_dots m_made_dots_r1
 rcases r with ⟨r1, E, r2, x, r3, r4⟩ | ⟨r1, E, r2⟩
 ·refine .inl ⟨r1, ?_⟩
  subst r3
  walk_at "ev"
  rw [if_neg hn]
  walk_at "ev"
  rw [r2]
  walk_at "ev"
  rw [r4]
  walk_at "ev"
  rw [lcN_all (enc := q4) (v := q4) (fun q hq => by walk_at "ev"; rfl)]
  walk_at "ev"
 ·refine .inr ⟨r1, ?_⟩
  walk_at "ev"
  rw [if_neg hn]
  walk_at "ev"
  rw [r2]
  walk_at "ev"
def goodD : D → Bool
 | .at (.int z) => nearZ z
 | _ => false
def Plain (x : D) : Prop := (∃ z, x = .int z) ∨ x = .non ∨ x = .bl true ∨ ∃ s, x = .str s
theorem is_near_plain {x : D} (h : Plain x) : m_is_near [x] = .ok (.im (.bl (goodD x))) := by
 rcases h with ⟨z, rfl⟩ | rfl | rfl | ⟨s, rfl⟩
 ·exact is_near_int z
 ·exact is_near_non
 ·exact is_near_bl true
 ·exact is_near_str s
theorem ask_one {L : Sl} {x : D} {b : Bool} (hd : m_is_near [x] = .ok (.im (.bl b))) : m_ask_map_b1 [L, .im x] = if b = true then .nx [L, .im x] else .er "NoMap" [L, .im x] := by
 unfold m_ask_map_b1
 generalize m_is_near = md at hd ⊢
 walk_at "ev"
 rw [hd]
 cases b
 ·walk_at "ev"
 ·walk_at "ev"
theorem ask_loop {L : Sl} {xs : List D} (h : ∀ x ∈ xs, Plain x) :
 (xs.all goodD = true ∧ ∃ E, forN (gName 1) m_ask_map_b1 (xs.map id) [L, .no] = .nx E ∧ ∃ x, E = [L, x]) ∨ (xs.all goodD = false ∧ ∃ E, forN (gName 1) m_ask_map_b1 (xs.map id) [L, .no] = .er "NoMap" E) :=
 forN_stop (enc := id) (g := gName 1) (f := m_ask_map_b1) (fun E => ∃ x, E = [L, x]) goodD (fun o => ∃ E, o = .er "NoMap" E) (fun o k ⟨E, e⟩ => by subst e; rfl) xs [L, .no]
  (fun E q hq ⟨x, e⟩ => by
   subst e
   refine ⟨_, rfl, ?_⟩
   walk_at "sets"
   have o := ask_one (L := L) (is_near_plain (h q hq))
   cases hg : goodD q
   ·rw [hg] at o
    exact .inr ⟨rfl, _, o⟩
   ·rw [hg] at o
    exact .inl ⟨rfl, _, .inl o, _, rfl⟩) ⟨_, rfl⟩
theorem ask_top {xs : List D} : m_ask_map [.tup xs] = if xs.length = 6 then retO ((forN (gName 1) m_ask_map_b1 xs [.im (.tup xs), .no]).then m_ask_map_r1) else .er "NoMap" := by
 unfold m_ask_map
 generalize m_ask_map_r1 = mr
 generalize m_ask_map_b1 = mb
 walk_at "ev"
 by_cases h : xs.length = 6
 ·rw [if_pos h]
  have k : ((xs.length : Nat) : Int) = 6 := by omega
  rw [k, if_neg (fun z => z rfl)]
 ·rw [if_neg h]
  have k : ¬((xs.length : Nat) : Int) = 6 := by omega
  rw [if_pos k]
theorem ask_far {xs : List D} (hp : ∀ x ∈ xs, Plain x) (h : xs.all goodD = false) : m_ask_map [.tup xs] = .er "NoMap" := by
 rw [ask_top]
 split
 ·rcases ask_loop (L := .im (.tup xs)) hp with ⟨r1, _⟩ | ⟨_, E, r2⟩
  ·rw [h] at r1
   cases r1
  ·rw [List.map_id] at r2
   rw [r2]
   rfl
 ·rfl
theorem ask_flat {L : Sl} {a b c d e f : Int} (ha : Sz 200 a) (hb : Sz 200 b) (hc : Sz 200 c) (hd : Sz 200 d) : m_ask_map_r1 [.im (.tup [.int a, .int b, .int c, .int d, .int e, .int f]), L] = if a * d = b * c then .er "NoMap" [.im (.tup [.int a, .int b, .int c, .int d, .int e, .int f]), L] else .nx [.im (.tup [.int a, .int b, .int c, .int d, .int e, .int f]), L] := by
 unfold m_ask_map_r1
 walk_at "ev"
theorem ask6 {a b c d e f : Int} : m_ask_map [.tup [.int a, .int b, .int c, .int d, .int e, .int f]] = if (nearZ a = true ∧ nearZ b = true ∧ nearZ c = true ∧ nearZ d = true ∧ nearZ e = true ∧ nearZ f = true) ∧ a * d ≠ b * c then .ok (.im .non) else .er "NoMap" := by
 have hp : ∀ x ∈ [D.int a, .int b, .int c, .int d, .int e, .int f], Plain x := by
  intro x hx
  simp only [List.mem_cons, List.not_mem_nil, or_false] at hx
  rcases hx with rfl | rfl | rfl | rfl | rfl | rfl <;> exact .inl ⟨_, rfl⟩
 have e1 : [D.int a, .int b, .int c, .int d, .int e, .int f].all goodD = (nearZ a && (nearZ b && (nearZ c && (nearZ d && (nearZ e && (nearZ f && true)))))) := rfl
 by_cases h : nearZ a = true ∧ nearZ b = true ∧ nearZ c = true ∧ nearZ d = true ∧ nearZ e = true ∧ nearZ f = true
 ·obtain ⟨ha, hb, hc, hd, he, hf⟩ := h
  rw [ask_top, if_pos (show [D.int a, .int b, .int c, .int d, .int e, .int f].length = 6 from rfl)]
  rcases ask_loop (L := .im (.tup [.int a, .int b, .int c, .int d, .int e, .int f])) hp with ⟨_, E, r2, x, r3⟩ | ⟨r1, _⟩
  ·rw [List.map_id] at r2
   subst r3
   rw [r2]
   show retO (m_ask_map_r1 _) = _
   rw [ask_flat ((nearZ_sz ha).mono (by decide)) ((nearZ_sz hb).mono (by decide)) ((nearZ_sz hc).mono (by decide)) ((nearZ_sz hd).mono (by decide))]
   by_cases k : a * d = b * c
   ·rw [if_pos k, if_neg (fun z => z.2 k)]
    rfl
   ·rw [if_neg k, if_pos ⟨⟨ha, hb, hc, hd, he, hf⟩, k⟩]
    rfl
  ·rw [e1, ha, hb, hc, hd, he, hf] at r1
   cases r1
 ·rw [if_neg (fun z => h z.1)]
  refine ask_far hp ?_
  rw [e1]
  cases h1 : nearZ a
  ·rfl
  cases h2 : nearZ b
  ·rfl
  cases h3 : nearZ c
  ·rfl
  cases h4 : nearZ d
  ·rfl
  cases h5 : nearZ e
  ·rfl
  cases h6 : nearZ f
  ·rfl
  exact absurd ⟨h1, h2, h3, h4, h5, h6⟩ h
structure M6 where
 a : Int
 b : Int
 c : Int
 d : Int
 e : Int
 f : Int
def mD (m : M6) : D := .tup [.int m.a, .int m.b, .int m.c, .int m.d, .int m.e, .int m.f]
structure MSz (n : Nat) (m : M6) : Prop where
 a : Sz n m.a
 b : Sz n m.b
 c : Sz n m.c
 d : Sz n m.d
 e : Sz n m.e
 f : Sz n m.f
def MOk (m : M6) : Prop := (nearZ m.a = true ∧ nearZ m.b = true ∧ nearZ m.c = true ∧ nearZ m.d = true ∧ nearZ m.e = true ∧ nearZ m.f = true) ∧ m.a * m.d ≠ m.b * m.c
theorem MOk.sz {m : M6} (h : MOk m) : MSz 42 m := by
 obtain ⟨⟨a, b, c, d, e, f⟩, _⟩ := h
 exact ⟨nearZ_sz a, nearZ_sz b, nearZ_sz c, nearZ_sz d, nearZ_sz e, nearZ_sz f⟩
theorem ask_good {m : M6} (h : MOk m) : m_ask_map [mD m] = .ok (.im .non) := by
 unfold mD
 exact ask6.trans (if_pos h)
def sentQ (m : M6) (q : P4) : P4 := (m.a * q.1 + m.b * q.2.1 + m.e, m.c * q.1 + m.d * q.2.1 + m.f, q.2.2.1, q.2.2.2)
theorem sent_body {L T : Sl} {m : M6} {l : List P4} {q : P4} (hl : l.length ≤ 1000) (sm : MSz 42 m) (sx : Sz 42 q.1) (sy : Sz 42 q.2.1) :
  m_sent_b1 [L, T, .im (.int m.a), .im (.int m.b), .im (.int m.c), .im (.int m.d), .im (.int m.e), .im (.int m.f), .ow (D.quads l), .im (.int q.1), .im (.int q.2.1), .im (.int q.2.2.1), .im (.int q.2.2.2)] =
   .nx [L, T, .im (.int m.a), .im (.int m.b), .im (.int m.c), .im (.int m.d), .im (.int m.e), .im (.int m.f), .ow (D.quads (l ++ [sentQ m q])), .im (.int q.1), .im (.int q.2.1), .im (.int q.2.2.1), .im (.int q.2.2.2)] := by
 obtain ⟨a, b, c, d, e, f⟩ := sm
 unfold m_sent_b1
 walk_at "ev"
 rw [show D.tup [D.int (m.a * q.1 + m.b * q.2.1 + m.e), D.int (m.c * q.1 + m.d * q.2.1 + m.f), D.int q.2.2.1, D.int q.2.2.2] = q4 (sentQ m q) from rfl, quads_snoc]
theorem sent_loop {L T : Sl} {m : M6} {ds : List P4} (hl : ds.length ≤ 30) (sm : MSz 42 m) (hd : ∀ q ∈ ds, Sz 42 q.1 ∧ Sz 42 q.2.1) :
  ∃ E, forN (gTup (gCons (gName 9) (gCons (gName 10) (gCons (gName 11) (gCons (gName 12) gNil))))) m_sent_b1 (ds.map q4) [L, T, .im (.int m.a), .im (.int m.b), .im (.int m.c), .im (.int m.d), .im (.int m.e), .im (.int m.f), .ow [], .no, .no, .no, .no] = .nx E ∧
   ∃ s9 s10 s11 s12, E = [L, T, .im (.int m.a), .im (.int m.b), .im (.int m.c), .im (.int m.d), .im (.int m.e), .im (.int m.f), .ow (D.quads (ds.map (sentQ m))), s9, s10, s11, s12] := by
 obtain ⟨E, h1, s9, s10, s11, s12, h2⟩ := forN_inv (enc := q4) (g := gTup (gCons (gName 9) (gCons (gName 10) (gCons (gName 11) (gCons (gName 12) gNil))))) (f := m_sent_b1)
  (fun i E => ∃ s9 s10 s11 s12, E = [L, T, .im (.int m.a), .im (.int m.b), .im (.int m.c), .im (.int m.d), .im (.int m.e), .im (.int m.f), .ow (D.quads ((ds.take i).map (sentQ m))), s9, s10, s11, s12]) ds 0 [L, T, .im (.int m.a), .im (.int m.b), .im (.int m.c), .im (.int m.d), .im (.int m.e), .im (.int m.f), .ow [], .no, .no, .no, .no]
  (fun i E q hq ⟨s9, s10, s11, s12, e⟩ => by
   subst e
   refine ⟨_, rfl, ?_⟩
   walk_at "sets"
   have mq := hd q (List.mem_of_getElem? hq)
   rw [Nat.zero_add]
   have b := sent_body (L := L) (T := T) (m := m) (l := (ds.take i).map (sentQ m)) (q := q) (by rw [List.length_map, List.length_take]; omega) sm mq.1 mq.2
   rw [show ds.take (i + 1) = ds.take i ++ [q] from by rw [List.take_succ, hq]; rfl, List.map_append]
   exact ⟨_, .inl b, _, _, _, _, rfl⟩) ⟨_, _, _, _, rfl⟩
 refine ⟨E, h1, s9, s10, s11, s12, ?_⟩
 rw [h2, Nat.zero_add, List.take_length]
theorem sent_ok {m : M6} {ds : List P4} (hm : MOk m) (hl : ds.length ≤ 30) (hc : ∀ q ∈ ds, CW q) (hd : ∀ q ∈ ds, Sz 42 q.1 ∧ Sz 42 q.2.1) :
  ((ds.map (sentQ m)).all nearQ = true ∧ m_sent [.lst (D.quads ds), mD m] = .ok (.fr (D.quads (ds.map (sentQ m))))) ∨ ((ds.map (sentQ m)).all nearQ = false ∧ m_sent [.lst (D.quads ds), mD m] = .er "NoDots") := by
 have ha := ask_good hm
 have hmd := made_dots_ok (ds := ds.map (sentQ m)) (by rw [List.length_map]; exact hl) (fun q hq => by
  obtain ⟨p, hp, rfl⟩ := List.mem_map.1 hq
  exact hc p hp)
 obtain ⟨E, h1, s9, s10, s11, s12, h2⟩ := sent_loop (L := .im (.lst (D.quads ds))) (T := .im (mD m)) hl hm.sz hd
 subst h2
 have k : m_sent [.lst (D.quads ds), mD m] = m_made_dots [.lst (D.quads (ds.map (sentQ m)))] := by
  unfold m_sent
  generalize m_ask_map = mk at ha ⊢
  generalize m_made_dots = mm at hmd ⊢
  generalize m_sent_b1 = mb at h1 ⊢
  unfold mD at ha h1 ⊢
  walk_at "ev"
  rw [ha]
  walk_at "ev"
  rw [h1]
  walk_at "ev"
  rw [frz_ow (ds := D.quads (ds.map (sentQ m))) rfl]
  walk_at "ev"
  rcases hmd with ⟨_, e⟩ | ⟨_, e⟩ <;> rw [e] <;> walk_at "ev"
 rw [k]
 exact hmd
theorem sent_bad {x T : D} (h : m_ask_map [T] = .er "NoMap") : m_sent [x, T] = .er "NoMap" := by
 unfold m_sent
 generalize m_ask_map = mk at h ⊢
 walk_at "ev"
 rw [h]
 walk_at "ev"
theorem pickI {l : List D} {n : Nat} {k : Int} (hl : l.length = n) (hn : 0 < n) (p : D → Prop) (h : ∀ x ∈ l, p x) : ∃ x, atR l (k % (n : Int)) = .ok (.im x) ∧ p x := by
 have h0 := Int.emod_nonneg k (show (n : Int) ≠ 0 by omega)
 have h1 := Int.emod_lt_of_pos k (show (0 : Int) < n by omega)
 have e : k % (n : Int) = ((k % (n : Int)).toNat : Int) := by omega
 have hi : (k % (n : Int)).toNat < l.length := by omega
 rw [e]
 exact ⟨l[(k % (n : Int)).toNat], atR_ok (atI_nat (List.getElem?_eq_getElem hi)), h _ (List.getElem_mem hi)⟩
section
open TL NumText
def showL (p : P3) : List Nat := (if 1 < p.1 then numZ p.1 ++ [64] else []) ++ (numZ p.2.1 ++ 58 :: numZ p.2.2)
def readR (a rest t : List Nat) : Option P3 := match cutAt 58 rest with
 | none => none
 | some (r, u) => (match intOf 40 a with
  | none => none
  | some B => if B = 0 then none else (match intOf 40 r with
   | none => none
   | some X => (match intOf 40 u with
    | none => none
    | some Y => if showL (placeP (B, X, Y)) = t then some (placeP (B, X, Y)) else none)))
def readM (t : List Nat) : Option P3 := match cutAt 64 t with
 | some (a, b) => readR a b t
 | none => readR [49] t t
end
section
open TL NumText
theorem int_of_ok40 {t : List Nat} (hl : t.length ≤ 1000) : m_int_of [.str (S t), .int 40] = (match intOf 40 t with
  | some v => .ok (.im (.int v))
  | none => .er "NoText") := by
 have dl : (digs t).length ≤ 1000 := by
  unfold digs
  split
  ·rw [List.length_tail]; omega
  ·exact hl
 have lS : (S t).length ≤ 100000 := by rw [len_S]; omega
 have lD : (S (digs t)).length ≤ 100000 := by rw [len_S]; omega
 unfold m_int_of
 rw [lit_minus, lit_empty]
 walk_at "ev"
 rw [sw_S]
 walk_at "ev"
 rw [cut_S, slice_digs, eqS]
 by_cases d0 : digs t = []
 ·rw [if_pos (by rw [decide_eq_true_eq]; exact d0)]
  walk_at "ev"
  have e : intOf 40 t = none := if_neg fun z => z.1 d0
  rw [e]
 ·rw [if_neg (by rw [decide_eq_true_eq]; exact d0)]
  walk_at "ev"
  rw [len_S]
  by_cases d40 : 40 < (digs t).length
  ·rw [if_pos (by omega)]
   walk_at "ev"
   have e : intOf 40 t = none := if_neg fun z => by have := z.2.1; omega
   rw [e]
  ·rw [if_neg (by omega)]
   walk_at "ev"
   rw [signs_S]
   have lp := int_loop (v0 := .im (.str (S t))) (v1 := .im (.int 40)) (v2 := .im (.bl (decide (t.head? = some 45)))) (v3 := .im (.str (S (digs t)))) (digs t) 0 0 .no (by decide) (by omega)
   rw [show ((0 : Nat) : Int) = 0 from rfl] at lp
   by_cases ad : AllDigits (digs t)
   ·obtain ⟨a5, lp⟩ := lp.1 ad
    have vl := dv_lt _ rfl ad
    have le : 10 ^ (digs t).length ≤ 10 ^ 40 := Nat.pow_le_pow_right (by decide) (by omega)
    rw [show (digs t).foldl (fun acc c => acc * 10 + (c - 48)) 0 = digitsVal (digs t) from rfl] at lp
    have sv : sgnV t = if t.head? = some 45 then -((digitsVal (digs t) : Nat) : Int) else ((digitsVal (digs t) : Nat) : Int) := rfl
    have io : intOf 40 t = if numZ (sgnV t) = t then some (sgnV t) else none := by
     unfold intOf
     by_cases z : numZ (sgnV t) = t
     ·rw [if_pos z, if_pos ⟨d0, by omega, ad, z⟩]
     ·rw [if_neg z, if_neg fun y => z y.2.2.2]
    rw [io]
    have fin : ∀ v : Int, v = sgnV t → v.natAbs < 10 ^ 50 → (sq (sIf (cNe (eStr (eVar 4)) (eVar 0)) (sq (sRaise "NoText") .nx) .nx) (sq (sRetV 4) .nx)) [.im (.str (S t)), .im (.int 40), .im (.bl (decide (t.head? = some 45))), .im (.str (S (digs t))), .im (.int v), a5] = if numZ (sgnV t) = t then .rt (.im (.int v)) else .er "NoText" [.im (.str (S t)), .im (.int 40), .im (.bl (decide (t.head? = some 45))), .im (.str (S (digs t))), .im (.int v), a5] := fun v hv hlt => by
     walk_at "ev"
     rw [ev_strc (log_lt hlt), S_num, hv]
     walk_at "ev"
     rw [eqS]
     by_cases z : numZ (sgnV t) = t
     ·rw [if_pos z, decide_eq_true z]
      walk_at "ev"
     ·rw [if_neg z, decide_eq_false z]
      walk_at "ev"
    have done : m_int_of_r1 [.im (.str (S t)), .im (.int 40), .im (.bl (decide (t.head? = some 45))), .im (.str (S (digs t))), .im (.int ((digitsVal (digs t) : Nat) : Int)), a5] = (sq (sIf (cNe (eStr (eVar 4)) (eVar 0)) (sq (sRaise "NoText") .nx) .nx) (sq (sRetV 4) .nx)) [.im (.str (S t)), .im (.int 40), .im (.bl (decide (t.head? = some 45))), .im (.str (S (digs t))), .im (.int (sgnV t)), a5] := by
     rw [sv]
     unfold m_int_of_r1
     generalize sq (sIf (cNe (eStr (eVar 4)) (eVar 0)) (sq (sRaise "NoText") .nx) .nx) (sq (sRetV 4) .nx) = rest
     by_cases hh : t.head? = some 45
     ·rw [decide_eq_true hh, if_pos hh]
      walk_at "ev"
      rw [show (0 : Int) - ((digitsVal (digs t) : Nat) : Int) = -((digitsVal (digs t) : Nat) : Int) by omega]
     ·rw [decide_eq_false hh, if_neg hh]
      walk_at "ev"
    rw [lp, ev_then_nx, done, fin _ rfl (by rw [sv]; split <;> omega)]
    by_cases z : numZ (sgnV t) = t
    ·rw [if_pos z, if_pos z]
     walk_at "ev"
    ·rw [if_neg z, if_neg z]
     rfl
   ·obtain ⟨E, lp⟩ := lp.2 ad
    have e : intOf 40 t = none := if_neg fun z => ad z.2.2.1
    rw [lp, e]
    rfl
end
section
open TL NumText
theorem sz_10 {z : Int} (h : Sz 140 z) : z.natAbs < 10 ^ 43 := Nat.lt_of_lt_of_le h.lt (by decide +kernel)
theorem show_okL {p : P3} (h : Sz3 140 p) : m_show_place [t3 p] = .ok (.im (.str (S (showL p)))) := by
 obtain ⟨h1, h2, h3⟩ := h
 have a := numZ_len (sz_10 h1)
 have b := numZ_len (sz_10 h2)
 have c := numZ_len (sz_10 h3)
 have g1 := log_lt (z := p.1) (Nat.lt_of_lt_of_le (sz_10 h1) (by decide +kernel))
 have g2 := log_lt (z := p.2.1) (Nat.lt_of_lt_of_le (sz_10 h2) (by decide +kernel))
 have g3 := log_lt (z := p.2.2) (Nat.lt_of_lt_of_le (sz_10 h3) (by decide +kernel))
 unfold m_show_place
 rw [lit_colon, lit_at]
 unfold showL t3
 walk_at "ev"
 rw [ev_strc g2, ev_strc g3, S_num, S_num, addS (by rw [List.length_singleton]; omega), addS (by rw [List.length_append, List.length_singleton]; omega)]
 walk_at "ev"
 by_cases q : 1 < p.1
 ·rw [if_pos q, if_pos q]
  walk_at "ev"
  rw [ev_strc g1, S_num, addS (by rw [List.length_singleton]; omega), addS (by simp only [List.length_append, List.length_singleton, List.length_cons, List.length_nil]; omega)]
  walk_at "ev"
 ·rw [if_neg q, if_neg q]
  walk_at "ev"
theorem intOf_ltL {t : List Nat} {v : Int} (h : intOf 40 t = some v) : v.natAbs < 10 ^ 40 := by
 unfold intOf at h
 split at h
 ·rename_i z
  cases h
  have l := dv_lt _ rfl z.2.2.1
  have le : 10 ^ (digs t).length ≤ 10 ^ 40 := Nat.pow_le_pow_right (by decide) z.2.1
  unfold sgnV
  split <;> omega
 ·cases h
end
section
open TL NumText
theorem sz40 {v : Int} (h : v.natAbs < 10 ^ 40) : Sz 134 v := Sz.of_lt (10 ^ 40) h (by decide +kernel)
theorem read_r2 {a rs t : List Nat} {v2 v4 v5 v6 : Sl} (la : a.length ≤ 900) (lr : rs.length ≤ 900) :
  (∀ p, readR a rs t = some p → m_read_place_r2 [.im (.str (S t)), .im (.str (S a)), v2, .im (.str (S rs)), v4, v5, v6, .no] = .rt (.im (t3 p))) ∧ (readR a rs t = none → ∃ E, m_read_place_r2 [.im (.str (S t)), .im (.str (S a)), v2, .im (.str (S rs)), v4, v5, v6, .no] = .er "NoText" E) := by
 have lR : (S rs).length ≤ 100000 := by rw [len_S]; omega
 have pt := part_S 58 rs
 have p1 : ((S [58]).length == 0) = false := rfl
 have start : ∀ (r s u : List Nat), Txt.partition (S rs) (S [58]) = (S r, S s, S u) → m_read_place_r2 [.im (.str (S t)), .im (.str (S a)), v2, .im (.str (S rs)), v4, v5, v6, .no] = (sq (sIfE (rOr rNil (cEq (eVar 5) (eC (.str ""))) (rOf (eCall m_int_of (aCons (eVar 1) (aCons (eC (.int 40)) aNil))))) (tOr (cEq (eVar 5) (eC (.str ""))) (cEq (eCall m_int_of (aCons (eVar 1) (aCons (eC (.int 40)) aNil))) (eC (.int 0)))) (sq (sRaise "NoText") .nx) .nx) m_read_place_r1) [.im (.str (S t)), .im (.str (S a)), v2, .im (.str (S rs)), .im (.str (S r)), .im (.str (S s)), .im (.str (S u)), .no] := fun r s u e => by
  unfold m_read_place_r2
  generalize sIfE (rOr rNil (cEq (eVar 5) (eC (.str ""))) (rOf (eCall m_int_of (aCons (eVar 1) (aCons (eC (.int 40)) aNil))))) (tOr (cEq (eVar 5) (eC (.str ""))) (cEq (eCall m_int_of (aCons (eVar 1) (aCons (eC (.int 40)) aNil))) (eC (.int 0)))) (sq (sRaise "NoText") .nx) .nx = st
  rw [lit_colon]
  generalize m_read_place_r1 = mr
  walk_at "ev"
  rw [e]
 unfold readR
 cases q58 : cutAt 58 rs with
 | none =>
  rw [q58] at pt
  refine ⟨(fun p h => by cases h), fun _ => ?_⟩
  rw [start _ _ _ pt, lit_empty]
  refine ⟨[.im (.str (S t)), .im (.str (S a)), v2, .im (.str (S rs)), .im (.str (S rs)), .im (.str (S [])), .im (.str (S [])), .no], ?_⟩
  rw [ev_sq, sIfE_no (by
   unfold rOr rNil
   dsimp only
   rw [show cEq (eVar 5) (eC (.str (S []))) [.im (.str (S t)), .im (.str (S a)), v2, .im (.str (S rs)), .im (.str (S rs)), .im (.str (S [])), .im (.str (S [])), .no] = .ok true from (eqD_S [] []).trans (by rw [decide_eq_true rfl])])]
  walk_at "ev"
  rw [eqS]
  walk_at "ev"
 | some ru =>
  obtain ⟨r, u⟩ := ru
  rw [q58] at pt
  obtain ⟨ers, _⟩ := cutAt_some q58
  have lens := congrArg List.length ers
  rw [List.length_append, List.length_cons] at lens
  dsimp only at pt ⊢
  rw [start _ _ _ pt, lit_empty]
  have ia := int_of_ok40 (t := a) (by omega)
  have ir := int_of_ok40 (t := r) (by omega)
  have iu := int_of_ok40 (t := u) (by omega)
  have c5 : cEq (eVar 5) (eC (.str (S []))) [.im (.str (S t)), .im (.str (S a)), v2, .im (.str (S rs)), .im (.str (S r)), .im (.str (S [58])), .im (.str (S u)), .no] = .ok false := (eqD_S [58] []).trans (by rw [decide_eq_false (by simp)])
  cases qa : intOf 40 a with
  | none =>
   rw [qa] at ia
   refine ⟨(fun p h => by cases h), fun _ => ⟨[.im (.str (S t)), .im (.str (S a)), v2, .im (.str (S rs)), .im (.str (S r)), .im (.str (S [58])), .im (.str (S u)), .no], ?_⟩⟩
   rw [ev_sq, sIfE_er (n := "NoText") (by
    unfold rOr rNil
    dsimp only
    rw [c5]
    dsimp only
    refine rOf_some ?_
    generalize m_int_of = mi at ia ⊢
    walk_at "ev"
    rw [ia]
    rfl)]
   rfl
  | some B =>
   rw [qa] at ia
   dsimp only at ia ⊢
   have b40 := intOf_ltL qa
   have cB : eCall m_int_of (aCons (eVar 1) (aCons (eC (.int 40)) aNil)) [.im (.str (S t)), .im (.str (S a)), v2, .im (.str (S rs)), .im (.str (S r)), .im (.str (S [58])), .im (.str (S u)), .no] = .ok (.im (.int B)) := by
    generalize m_int_of = mi at ia ⊢
    walk_at "ev"
    rw [ia]
    walk_at "ev"
   rw [ev_sq, sIfE_no (by
    unfold rOr rNil
    dsimp only
    rw [c5]
    exact rOf_none cB)]
   have tst : tOr (cEq (eVar 5) (eC (.str (S [])))) (cEq (eCall m_int_of (aCons (eVar 1) (aCons (eC (.int 40)) aNil))) (eC (.int 0))) [.im (.str (S t)), .im (.str (S a)), v2, .im (.str (S rs)), .im (.str (S r)), .im (.str (S [58])), .im (.str (S u)), .no] = .ok (decide (B = 0)) := by
    unfold tOr
    rw [c5]
    dsimp only
    generalize eCall m_int_of (aCons (eVar 1) (aCons (eC (.int 40)) aNil)) = me at cB ⊢
    walk_at "ev"
    rw [cB]
    walk_at "ev"
   have sf : ∀ E (f g : Fr → O), sIf (tOr (cEq (eVar 5) (eC (.str (S [])))) (cEq (eCall m_int_of (aCons (eVar 1) (aCons (eC (.int 40)) aNil))) (eC (.int 0)))) f g E = ifO (tOr (cEq (eVar 5) (eC (.str (S [])))) (cEq (eCall m_int_of (aCons (eVar 1) (aCons (eC (.int 40)) aNil))) (eC (.int 0))) E) (f E) (g E) := fun _ _ _ => rfl
   rw [sf, tst]
   by_cases b0 : B = 0
   ·rw [if_pos b0, decide_eq_true b0]
    exact ⟨(fun p h => by cases h), fun _ => ⟨_, rfl⟩⟩
   ·rw [if_neg b0, decide_eq_false b0]
    have go : (ifO (.ok false) ((sq (sRaise "NoText") O.nx) [.im (.str (S t)), .im (.str (S a)), v2, .im (.str (S rs)), .im (.str (S r)), .im (.str (S [58])), .im (.str (S u)), .no]) (O.nx [.im (.str (S t)), .im (.str (S a)), v2, .im (.str (S rs)), .im (.str (S r)), .im (.str (S [58])), .im (.str (S u)), .no])).then m_read_place_r1 = m_read_place_r1 [.im (.str (S t)), .im (.str (S a)), v2, .im (.str (S rs)), .im (.str (S r)), .im (.str (S [58])), .im (.str (S u)), .no] := rfl
    rw [go]
    cases qr : intOf 40 r with
    | none =>
     rw [qr] at ir
     refine ⟨(fun p h => by cases h), fun _ => ⟨[.im (.str (S t)), .im (.str (S a)), v2, .im (.str (S rs)), .im (.str (S r)), .im (.str (S [58])), .im (.str (S u)), .no], ?_⟩⟩
     have cR : eCall m_int_of (aCons (eVar 4) (aCons (eC (.int 40)) aNil)) [.im (.str (S t)), .im (.str (S a)), v2, .im (.str (S rs)), .im (.str (S r)), .im (.str (S [58])), .im (.str (S u)), .no] = .er "NoText" := by
      generalize m_int_of = mi at ir ⊢
      walk_at "ev"
      rw [ir]
      rfl
     unfold m_read_place_r1
     generalize eCall m_int_of (aCons (eVar 1) (aCons (eC (.int 40)) aNil)) = me at cB ⊢
     generalize eCall m_int_of (aCons (eVar 4) (aCons (eC (.int 40)) aNil)) = mf at cR ⊢
     walk_at "ev"
     rw [eCallE_er (n := "NoText") ((rCons_next (d := .int B) (rOf_none cB) (by rw [cB]; rfl)).trans (rCons_some (rOf_some cR)))]
     rfl
    | some X =>
     rw [qr] at ir
     dsimp only at ir ⊢
     have x40 := intOf_ltL qr
     have cR : eCall m_int_of (aCons (eVar 4) (aCons (eC (.int 40)) aNil)) [.im (.str (S t)), .im (.str (S a)), v2, .im (.str (S rs)), .im (.str (S r)), .im (.str (S [58])), .im (.str (S u)), .no] = .ok (.im (.int X)) := by
      generalize m_int_of = mi at ir ⊢
      walk_at "ev"
      rw [ir]
      walk_at "ev"
     cases qu : intOf 40 u with
     | none =>
      rw [qu] at iu
      refine ⟨(fun p h => by cases h), fun _ => ⟨[.im (.str (S t)), .im (.str (S a)), v2, .im (.str (S rs)), .im (.str (S r)), .im (.str (S [58])), .im (.str (S u)), .no], ?_⟩⟩
      have cU : eCall m_int_of (aCons (eVar 6) (aCons (eC (.int 40)) aNil)) [.im (.str (S t)), .im (.str (S a)), v2, .im (.str (S rs)), .im (.str (S r)), .im (.str (S [58])), .im (.str (S u)), .no] = .er "NoText" := by
       generalize m_int_of = mi at iu ⊢
       walk_at "ev"
       rw [iu]
       rfl
      unfold m_read_place_r1
      generalize eCall m_int_of (aCons (eVar 1) (aCons (eC (.int 40)) aNil)) = me at cB ⊢
      generalize eCall m_int_of (aCons (eVar 4) (aCons (eC (.int 40)) aNil)) = mf at cR ⊢
      generalize eCall m_int_of (aCons (eVar 6) (aCons (eC (.int 40)) aNil)) = mg at cU ⊢
      walk_at "ev"
      rw [eCallE_er (n := "NoText") ((rCons_next (d := .int B) (rOf_none cB) (by rw [cB]; rfl)).trans ((rCons_next (d := .int X) (rOf_none cR) (by rw [cR]; rfl)).trans (rCons_some (rOf_some cU))))]
      rfl
     | some Y =>
      rw [qu] at iu
      dsimp only at iu ⊢
      have y40 := intOf_ltL qu
      have cU : eCall m_int_of (aCons (eVar 6) (aCons (eC (.int 40)) aNil)) [.im (.str (S t)), .im (.str (S a)), v2, .im (.str (S rs)), .im (.str (S r)), .im (.str (S [58])), .im (.str (S u)), .no] = .ok (.im (.int Y)) := by
       generalize m_int_of = mi at iu ⊢
       walk_at "ev"
       rw [iu]
       walk_at "ev"
      have z3 : Sz3 134 ((B, X, Y) : P3) := ⟨sz40 b40, sz40 x40, sz40 y40⟩
      have pk := place_ok (y := (B, X, Y)) b0 ⟨z3.1.mono (by decide), z3.2.1.mono (by decide), z3.2.2.mono (by decide)⟩
      have ps := placeP_sz (y := (B, X, Y)) b0 z3
      have sh := show_okL (p := placeP (B, X, Y)) ⟨ps.1.mono (by decide), ps.2.1.mono (by decide), ps.2.2.mono (by decide)⟩
      dsimp only at pk
      generalize placeP (B, X, Y) = P at pk sh ⊢
      have fin : ∀ (o : Bool), o = decide (showL P = t) → m_read_place_r1 [.im (.str (S t)), .im (.str (S a)), v2, .im (.str (S rs)), .im (.str (S r)), .im (.str (S [58])), .im (.str (S u)), .no] = if o = true then .rt (.im (t3 P)) else .er "NoText" [.im (.str (S t)), .im (.str (S a)), v2, .im (.str (S rs)), .im (.str (S r)), .im (.str (S [58])), .im (.str (S u)), .im (t3 P)] := fun o ho => by
       unfold m_read_place_r1
       generalize eCall m_int_of (aCons (eVar 1) (aCons (eC (.int 40)) aNil)) = me at cB ⊢
       generalize eCall m_int_of (aCons (eVar 4) (aCons (eC (.int 40)) aNil)) = mf at cR ⊢
       generalize eCall m_int_of (aCons (eVar 6) (aCons (eC (.int 40)) aNil)) = mg at cU ⊢
       generalize m_place = mp at pk ⊢
       generalize m_show_place = msh at sh ⊢
       walk_at "ev"
       rw [eCallE_no ((rCons_next (d := .int B) (rOf_none cB) (by rw [cB]; rfl)).trans ((rCons_next (d := .int X) (rOf_none cR) (by rw [cR]; rfl)).trans ((rCons_next (d := .int Y) (rOf_none cU) (by rw [cU]; rfl)).trans rfl)))]
       walk_at "ev"
       rw [cB, cR, cU]
       walk_at "ev"
       rw [pk]
       walk_at "ev"
       rw [sh]
       walk_at "ev"
       rw [eqS, ho]
       by_cases z : showL P = t
       ·rw [decide_eq_true z]
        walk_at "ev"
       ·rw [decide_eq_false z]
        walk_at "ev"
      by_cases z : showL P = t
      ·rw [fin true (decide_eq_true z).symm, if_pos rfl, if_pos z]
       exact ⟨(fun p h => by cases h; rfl), fun h => by cases h⟩
      ·rw [fin false (decide_eq_false z).symm, if_neg z, if_neg (show ¬ false = true by decide)]
       exact ⟨(fun p h => by cases h), fun _ => ⟨_, rfl⟩⟩
end
section
open TL NumText
theorem read_ok {t : List Nat} (hl : t.length ≤ 800) : (∀ p, readM t = some p → m_read_place [.str (S t)] = .ok (.im (t3 p))) ∧ (readM t = none → m_read_place [.str (S t)] = .er "NoText") := by
 have lS : (S t).length ≤ 100000 := by rw [len_S]; omega
 have p1 : ((S [64]).length == 0) = false := rfl
 have pt := part_S 64 t
 have start : ∀ (a s b : List Nat), Txt.partition (S t) (S [64]) = (S a, S s, S b) → m_read_place [.str (S t)] = fnR 8 (fun _ => (sq (sIf (cEq (eVar 2) (eC (.str ""))) (sq (sPar 1 3 (aCons (eC (.str "1")) (aCons (eVar 0) aNil))) .nx) .nx) m_read_place_r2) [.im (.str (S t)), .im (.str (S a)), .im (.str (S s)), .im (.str (S b)), .no, .no, .no, .no]) [.str (S t)] := fun a s b e => by
  unfold m_read_place m_read_place_r3
  generalize sIf (cEq (eVar 2) (eC (.str ""))) (sq (sPar 1 3 (aCons (eC (.str "1")) (aCons (eVar 0) aNil))) .nx) .nx = st
  rw [lit_at]
  generalize m_read_place_r2 = mr
  walk_at "ev"
  rw [e]
 unfold readM
 cases q : cutAt 64 t with
 | none =>
  rw [q] at pt
  dsimp only at pt ⊢
  rw [start _ _ _ pt, lit_empty, lit_1]
  obtain ⟨r1, r2⟩ := read_r2 (a := [49]) (rs := t) (t := t) (v2 := .im (.str (S []))) (v4 := .no) (v5 := .no) (v6 := .no) (by decide) (by omega)
  generalize m_read_place_r2 = mr at r1 r2 ⊢
  refine ⟨fun p h => ?_, fun h => ?_⟩
  ·have k := r1 p h
   walk_at "ev"
   rw [eqS]
   walk_at "ev"
   rw [k]
   walk_at "ev"
  ·obtain ⟨E, k⟩ := r2 h
   walk_at "ev"
   rw [eqS]
   walk_at "ev"
   rw [k]
   rfl
 | some ab =>
  obtain ⟨a, b⟩ := ab
  rw [q] at pt
  obtain ⟨et, _⟩ := cutAt_some q
  have lens := congrArg List.length et
  rw [List.length_append, List.length_cons] at lens
  dsimp only at pt ⊢
  rw [start _ _ _ pt, lit_empty, lit_1]
  obtain ⟨r1, r2⟩ := read_r2 (a := a) (rs := b) (t := t) (v2 := .im (.str (S [64]))) (v4 := .no) (v5 := .no) (v6 := .no) (by omega) (by omega)
  generalize m_read_place_r2 = mr at r1 r2 ⊢
  refine ⟨fun p h => ?_, fun h => ?_⟩
  ·have k := r1 p h
   walk_at "ev"
   rw [eqS]
   walk_at "ev"
   rw [k, if_neg (by simp)]
   walk_at "ev"
  ·obtain ⟨E, k⟩ := r2 h
   walk_at "ev"
   rw [eqS]
   walk_at "ev"
   rw [k, if_neg (by simp)]
   rfl
end
section
open TL NumText
structure Sh where
 now : List P4
 ear : List (List P4)
abbrev shK : GK := .obj "Sheet" ["now", "earlier"]
def rowD (r : List P4) : D := .lst (D.quads r)
def shD (s : Sh) : List D := [rowD s.now, .lst (s.ear.map rowD)]
def shU (s : Sh) : GK × List D := (shK, shD s)
def strsD (ws : List (List Nat)) : List D := ws.map fun w => D.str (S w)
def askE (s : Sh) (row v : List Nat) (ws ks : List (List Nat)) : Fr := [.og (.lent 0 shK) (shD s), .im (.str (S row)), .im (.lst (strsD (v :: ws))), .im (.str (S v)), .im (.lst (strsD ks)), .no, .no]
theorem split_row {t : List Nat} {ws : List (List Nat)} (hl : t.length ≤ 90000) (h : spl [32] 0 [] t = ws) : splR (S t) (S [32]) = .ok (.fr (strsD ws)) := by
 unfold splR
 rw [if_pos ⟨rfl, by rw [len_S, sizeLine_eq]; omega⟩, split_S, List.map_map, h]
 rfl
theorem ask_row {s : Sh} {row v : List Nat} {ws ks : List (List Nat)} (hl : row.length ≤ 90000) (h : spl [32] 0 [] row = v :: ws) (hk : m_kinds_behind [.str (S v)] = .ok (.fr (strsD ks))) (hn : ks.length = ws.length) :
  m_Sheet_ask [shU s] [.str (S row)] = retL 1 (m_Sheet_ask_r4 (askE s row v ws ks)) := by
 have e := split_row hl h
 rw [← lit_sp] at e
 have e3 : (strsD (v :: ws)).length = ws.length + 1 := by simp [strsD]
 have e4 : (strsD ks).length = ws.length := by simp [strsD, hn]
 have e5 : atR (strsD (v :: ws)) 0 = .ok (.im (.str (S v))) := ev_at0
 unfold m_Sheet_ask shU
 rw [eu_fnl1]
 congr 1
 unfold m_Sheet_ask_r5 askE
 generalize strsD (v :: ws) = W at *
 generalize strsD ks = KS at *
 generalize shD s = SD
 generalize m_kinds_behind = mk at *
 generalize m_Sheet_ask_r4 = r3
 walk_at "ev"
 rw [e]
 walk_at "ev"
 rw [e5]
 walk_at "ev"
 rw [hk]
 walk_at "ev"
 rw [e3, e4]
 walk_at "ev"
 rw [if_neg (by omega)]
def meantL : List (R D) → R (List D)
 | [] => .ok []
 | .ok d :: rs => (match meantL rs with
  | .ok ds => .ok (d :: ds)
  | r => r)
 | .er n :: _ => .er n
 | .bad :: _ => .bad
def retD : R D → R Ret
 | .ok d => .ok (.im d)
 | .er n => .er n
 | .bad => .bad
abbrev Tr := List (List Nat × List Nat × R D)
def wsT (T : Tr) : List (List Nat) := T.map (·.2.1)
def ksT (T : Tr) : List (List Nat) := T.map (·.1)
def rsT (T : Tr) : List (R D) := T.map (·.2.2)
theorem zip_T : ∀ T : Tr, zipD (strsD (ksT T)) (strsD (wsT T)) = T.map fun t => .tup [.str (S t.1), .str (S t.2.1)]
 | [] => rfl
 | t :: T => by
  show _ :: zipD (strsD (ksT T)) (strsD (wsT T)) = _
  rw [zip_T T]
  rfl
theorem lcNE_T {h : D → R (Option D)} : ∀ {T : Tr}, (∀ t ∈ T, h (.tup [.str (S t.1), .str (S t.2.1)]) = (match t.2.2 with | .ok d => .ok (some d) | .er n => .er n | .bad => .bad)) → lcNE h (T.map fun t => .tup [.str (S t.1), .str (S t.2.1)]) = meantL (rsT T)
 | [], _ => rfl
 | t :: T, k => by
  rw [List.map_cons, lcNE, k t List.mem_cons_self, lcNE_T fun x hx => k x (List.mem_cons_of_mem _ hx)]
  show _ = meantL (t.2.2 :: rsT T)
  cases t.2.2 with
  | ok d =>
   rw [meantL]
   cases meantL (rsT T) <;> rfl
  | er n => rfl
  | bad => rfl
theorem ask_lc {s : Sh} {row v : List Nat} {T : Tr} (hT : T.length ≤ 100) (hm : ∀ t ∈ T, m_meant [.str (S t.1), .str (S t.2.1)] = retD t.2.2) :
  eLcE [5, 6] (gTup (gCons (gName 5) (gCons (gName 6) gNil))) (iZipA (eVar 4) (eSl (eVar 2) (oSome (eC (.int 1))) oNone)) tTrue (eCall m_meant (aCons (eVar 5) (aCons (eVar 6) aNil))) (askE s row v (wsT T) (ksT T)) = lstRE (meantL (rsT T)) := by
 have c1 : cutD (strsD (v :: wsT T)) (some 1) none = strsD (wsT T) := by
  show cutD (D.str (S v) :: strsD (wsT T)) (some 1) none = _
  unfold cutD HT.sIx
  simp
 unfold eLcE lcGoE
 have e : iZipA (eVar 4) (eSl (eVar 2) (oSome (eC (.int 1))) oNone) (askE s row v (wsT T) (ksT T)) = .ok (T.map fun t => .tup [.str (S t.1), .str (S t.2.1)]) := by
  rw [← zip_T, ← c1]
  rfl
 rw [e]
 dsimp only
 rw [if_pos ⟨rfl, by rw [List.length_map, sizeLine_eq]; omega⟩]
 congr 1
 refine lcNE_T fun t ht => ?_
 have m := hm t ht
 generalize m_meant = mm at m ⊢
 unfold askE
 have e2 : eCall mm (aCons (eVar 5) (aCons (eVar 6) aNil)) [.og (.lent 0 shK) (shD s), .im (.str (S row)), .im (.lst (strsD (v :: wsT T))), .im (.str (S v)), .im (.lst (strsD (ksT T))), .im (.str (S t.1)), .im (.str (S t.2.1))] = retV (retD t.2.2) := by
  rw [← m]
  rfl
 have e3 : lc1E (gTup (gCons (gName 5) (gCons (gName 6) gNil))) tTrue (eCall mm (aCons (eVar 5) (aCons (eVar 6) aNil))) (wipeF [.og (.lent 0 shK) (shD s), .im (.str (S row)), .im (.lst (strsD (v :: wsT T))), .im (.str (S v)), .im (.lst (strsD (ksT T))), .no, .no] [5, 6]) (.tup [.str (S t.1), .str (S t.2.1)]) = lcTE (.ok true) (eCall mm (aCons (eVar 5) (aCons (eVar 6) aNil)) [.og (.lent 0 shK) (shD s), .im (.str (S row)), .im (.lst (strsD (v :: wsT T))), .im (.str (S v)), .im (.lst (strsD (ksT T))), .im (.str (S t.1)), .im (.str (S t.2.1))]) := rfl
 rw [e3, e2]
 cases t.2.2 <;> rfl
def askD (s : Sh) (row v : List Nat) (ds : List D) (ks : List (List Nat)) : Fr := [.og (.lent 0 shK) (shD s), .im (.str (S row)), .im (.lst ds), .im (.str (S v)), .im (.lst (strsD ks)), .no, .no]
noncomputable def ask_rest (ds : List D) (s : Sh) (row v : List Nat) (ks : List (List Nat)) : O := sq (sIf (cInT (eVar 3) (eTup (aCons (eC (.str "put")) (aCons (eC (.str "cut")) (aCons (eC (.str "map")) (aCons (eC (.str "clear")) (aCons (eC (.str "back")) aNil))))))) m_Sheet_ask_i1 .nx) m_Sheet_ask_r3 (askD s row v ds ks)
theorem ask_words {s : Sh} {row v : List Nat} {T : Tr} (hT : T.length ≤ 100) (hm : ∀ t ∈ T, m_meant [.str (S t.1), .str (S t.2.1)] = retD t.2.2) :
  m_Sheet_ask_r4 (askE s row v (wsT T) (ksT T)) = (match meantL (rsT T) with
   | .ok ds => ask_rest ds s row v (ksT T)
   | .er n => .er n (askE s row v (wsT T) (ksT T))
   | .bad => .bad) := by
 have l := ask_lc (s := s) (row := row) (v := v) hT hm
 unfold m_Sheet_ask_r4
 rw [ev_sq, ev_set, l]
 cases meantL (rsT T) with
 | ok ds => rfl
 | er n => rfl
 | bad => rfl
theorem ask_all {s : Sh} {row v : List Nat} {T : Tr} (hl : row.length ≤ 90000) (h : spl [32] 0 [] row = v :: wsT T) (hk : m_kinds_behind [.str (S v)] = .ok (.fr (strsD (ksT T)))) (hT : T.length ≤ 100) (hm : ∀ t ∈ T, m_meant [.str (S t.1), .str (S t.2.1)] = retD t.2.2) :
  m_Sheet_ask [shU s] [.str (S row)] = (match meantL (rsT T) with
   | .ok ds => retL 1 (ask_rest ds s row v (ksT T))
   | .er n => .er n [shU s]
   | .bad => .bad) := by
 rw [ask_row hl h hk (by simp [wsT, ksT]), ask_words hT hm]
 cases meantL (rsT T) <;> rfl
end
abbrev L_put : List Nat := [112, 117, 116]
abbrev L_cut : List Nat := [99, 117, 116]
abbrev L_map : List Nat := [109, 97, 112]
abbrev L_clear : List Nat := [99, 108, 101, 97, 114]
abbrev L_back : List Nat := [98, 97, 99, 107]
abbrev L_dots : List Nat := [100, 111, 116, 115]
abbrev L_fair : List Nat := [102, 97, 105, 114]
abbrev L_depth : List Nat := [100, 101, 112, 116, 104]
abbrev L_in : List Nat := [105, 110]
abbrev L_lines : List Nat := [108, 105, 110, 101, 115]
abbrev L_quarter : List Nat := [113, 117, 97, 114, 116, 101, 114]
abbrev L_middle : List Nat := [109, 105, 100, 100, 108, 101]
abbrev L_deepest : List Nat := [100, 101, 101, 112, 101, 115, 116]
abbrev L_two : List Nat := [116, 119, 111]
abbrev L_three : List Nat := [116, 104, 114, 101, 101]
abbrev L_dot : List Nat := [100, 111, 116]
abbrev L_number : List Nat := [110, 117, 109, 98, 101, 114]
abbrev L_entry : List Nat := [101, 110, 116, 114, 121]
abbrev L_place : List Nat := [112, 108, 97, 99, 101]
abbrev L_letter : List Nat := [108, 101, 116, 116, 101, 114]
theorem wd_put_clear : (S L_put == ("clear" : Str)) = false := by rfl
theorem wd_put_map : (S L_put == ("map" : Str)) = false := by rfl
theorem wd_put_put : (S L_put == ("put" : Str)) = true := by rfl
theorem wd_put_back : (S L_put == ("back" : Str)) = false := by rfl
theorem wd_put_dots : (S L_put == ("dots" : Str)) = false := by rfl
theorem wd_cut_clear : (S L_cut == ("clear" : Str)) = false := by rfl
theorem wd_cut_map : (S L_cut == ("map" : Str)) = false := by rfl
theorem wd_cut_put : (S L_cut == ("put" : Str)) = false := by rfl
theorem wd_cut_back : (S L_cut == ("back" : Str)) = false := by rfl
theorem wd_cut_dots : (S L_cut == ("dots" : Str)) = false := by rfl
theorem wd_map_clear : (S L_map == ("clear" : Str)) = false := by rfl
theorem wd_map_map : (S L_map == ("map" : Str)) = true := by rfl
theorem wd_map_put : (S L_map == ("put" : Str)) = false := by rfl
theorem wd_map_back : (S L_map == ("back" : Str)) = false := by rfl
theorem wd_map_dots : (S L_map == ("dots" : Str)) = false := by rfl
theorem wd_clear_clear : (S L_clear == ("clear" : Str)) = true := by rfl
theorem wd_clear_map : (S L_clear == ("map" : Str)) = false := by rfl
theorem wd_clear_put : (S L_clear == ("put" : Str)) = false := by rfl
theorem wd_clear_back : (S L_clear == ("back" : Str)) = false := by rfl
theorem wd_clear_dots : (S L_clear == ("dots" : Str)) = false := by rfl
theorem wd_back_clear : (S L_back == ("clear" : Str)) = false := by rfl
theorem wd_back_map : (S L_back == ("map" : Str)) = false := by rfl
theorem wd_back_put : (S L_back == ("put" : Str)) = false := by rfl
theorem wd_back_back : (S L_back == ("back" : Str)) = true := by rfl
theorem wd_back_dots : (S L_back == ("dots" : Str)) = false := by rfl
theorem wd_dots_clear : (S L_dots == ("clear" : Str)) = false := by rfl
theorem wd_dots_map : (S L_dots == ("map" : Str)) = false := by rfl
theorem wd_dots_put : (S L_dots == ("put" : Str)) = false := by rfl
theorem wd_dots_back : (S L_dots == ("back" : Str)) = false := by rfl
theorem wd_dots_dots : (S L_dots == ("dots" : Str)) = true := by rfl
theorem wd_fair_clear : (S L_fair == ("clear" : Str)) = false := by rfl
theorem wd_fair_map : (S L_fair == ("map" : Str)) = false := by rfl
theorem wd_fair_put : (S L_fair == ("put" : Str)) = false := by rfl
theorem wd_fair_back : (S L_fair == ("back" : Str)) = false := by rfl
theorem wd_fair_dots : (S L_fair == ("dots" : Str)) = false := by rfl
theorem wd_depth_clear : (S L_depth == ("clear" : Str)) = false := by rfl
theorem wd_depth_map : (S L_depth == ("map" : Str)) = false := by rfl
theorem wd_depth_put : (S L_depth == ("put" : Str)) = false := by rfl
theorem wd_depth_back : (S L_depth == ("back" : Str)) = false := by rfl
theorem wd_depth_dots : (S L_depth == ("dots" : Str)) = false := by rfl
theorem wd_in_clear : (S L_in == ("clear" : Str)) = false := by rfl
theorem wd_in_map : (S L_in == ("map" : Str)) = false := by rfl
theorem wd_in_put : (S L_in == ("put" : Str)) = false := by rfl
theorem wd_in_back : (S L_in == ("back" : Str)) = false := by rfl
theorem wd_in_dots : (S L_in == ("dots" : Str)) = false := by rfl
theorem wd_lines_clear : (S L_lines == ("clear" : Str)) = false := by rfl
theorem wd_lines_map : (S L_lines == ("map" : Str)) = false := by rfl
theorem wd_lines_put : (S L_lines == ("put" : Str)) = false := by rfl
theorem wd_lines_back : (S L_lines == ("back" : Str)) = false := by rfl
theorem wd_lines_dots : (S L_lines == ("dots" : Str)) = false := by rfl
theorem wd_quarter_clear : (S L_quarter == ("clear" : Str)) = false := by rfl
theorem wd_quarter_map : (S L_quarter == ("map" : Str)) = false := by rfl
theorem wd_quarter_put : (S L_quarter == ("put" : Str)) = false := by rfl
theorem wd_quarter_back : (S L_quarter == ("back" : Str)) = false := by rfl
theorem wd_quarter_dots : (S L_quarter == ("dots" : Str)) = false := by rfl
theorem wd_middle_clear : (S L_middle == ("clear" : Str)) = false := by rfl
theorem wd_middle_map : (S L_middle == ("map" : Str)) = false := by rfl
theorem wd_middle_put : (S L_middle == ("put" : Str)) = false := by rfl
theorem wd_middle_back : (S L_middle == ("back" : Str)) = false := by rfl
theorem wd_middle_dots : (S L_middle == ("dots" : Str)) = false := by rfl
theorem wd_deepest_clear : (S L_deepest == ("clear" : Str)) = false := by rfl
theorem wd_deepest_map : (S L_deepest == ("map" : Str)) = false := by rfl
theorem wd_deepest_put : (S L_deepest == ("put" : Str)) = false := by rfl
theorem wd_deepest_back : (S L_deepest == ("back" : Str)) = false := by rfl
theorem wd_deepest_dots : (S L_deepest == ("dots" : Str)) = false := by rfl
theorem wd_two_clear : (S L_two == ("clear" : Str)) = false := by rfl
theorem wd_two_map : (S L_two == ("map" : Str)) = false := by rfl
theorem wd_two_put : (S L_two == ("put" : Str)) = false := by rfl
theorem wd_two_back : (S L_two == ("back" : Str)) = false := by rfl
theorem wd_two_dots : (S L_two == ("dots" : Str)) = false := by rfl
theorem wd_three_clear : (S L_three == ("clear" : Str)) = false := by rfl
theorem wd_three_map : (S L_three == ("map" : Str)) = false := by rfl
theorem wd_three_put : (S L_three == ("put" : Str)) = false := by rfl
theorem wd_three_back : (S L_three == ("back" : Str)) = false := by rfl
theorem wd_three_dots : (S L_three == ("dots" : Str)) = false := by rfl
theorem wd_dot_dot : (S L_dot == ("dot" : Str)) = true := by rfl
theorem wd_dot_number : (S L_dot == ("number" : Str)) = false := by rfl
theorem wd_dot_entry : (S L_dot == ("entry" : Str)) = false := by rfl
theorem wd_dot_place : (S L_dot == ("place" : Str)) = false := by rfl
theorem wd_number_dot : (S L_number == ("dot" : Str)) = false := by rfl
theorem wd_number_number : (S L_number == ("number" : Str)) = true := by rfl
theorem wd_number_entry : (S L_number == ("entry" : Str)) = false := by rfl
theorem wd_number_place : (S L_number == ("place" : Str)) = false := by rfl
theorem wd_entry_dot : (S L_entry == ("dot" : Str)) = false := by rfl
theorem wd_entry_number : (S L_entry == ("number" : Str)) = false := by rfl
theorem wd_entry_entry : (S L_entry == ("entry" : Str)) = true := by rfl
theorem wd_entry_place : (S L_entry == ("place" : Str)) = false := by rfl
theorem wd_place_dot : (S L_place == ("dot" : Str)) = false := by rfl
theorem wd_place_number : (S L_place == ("number" : Str)) = false := by rfl
theorem wd_place_entry : (S L_place == ("entry" : Str)) = false := by rfl
theorem wd_place_place : (S L_place == ("place" : Str)) = true := by rfl
theorem wd_letter_dot : (S L_letter == ("dot" : Str)) = false := by rfl
theorem wd_letter_number : (S L_letter == ("number" : Str)) = false := by rfl
theorem wd_letter_entry : (S L_letter == ("entry" : Str)) = false := by rfl
theorem wd_letter_place : (S L_letter == ("place" : Str)) = false := by rfl
theorem wi_put : inTR (.ok (.str (S L_put))) (.ok (.tup [.str "put", .str "cut", .str "map", .str "clear", .str "back"])) = .ok true := by rfl
theorem wi_cut : inTR (.ok (.str (S L_cut))) (.ok (.tup [.str "put", .str "cut", .str "map", .str "clear", .str "back"])) = .ok true := by rfl
theorem wi_map : inTR (.ok (.str (S L_map))) (.ok (.tup [.str "put", .str "cut", .str "map", .str "clear", .str "back"])) = .ok true := by rfl
theorem wi_clear : inTR (.ok (.str (S L_clear))) (.ok (.tup [.str "put", .str "cut", .str "map", .str "clear", .str "back"])) = .ok true := by rfl
theorem wi_back : inTR (.ok (.str (S L_back))) (.ok (.tup [.str "put", .str "cut", .str "map", .str "clear", .str "back"])) = .ok true := by rfl
theorem wi_dots : inTR (.ok (.str (S L_dots))) (.ok (.tup [.str "put", .str "cut", .str "map", .str "clear", .str "back"])) = .ok false := by rfl
theorem wi_fair : inTR (.ok (.str (S L_fair))) (.ok (.tup [.str "put", .str "cut", .str "map", .str "clear", .str "back"])) = .ok false := by rfl
theorem wi_depth : inTR (.ok (.str (S L_depth))) (.ok (.tup [.str "put", .str "cut", .str "map", .str "clear", .str "back"])) = .ok false := by rfl
theorem wi_in : inTR (.ok (.str (S L_in))) (.ok (.tup [.str "put", .str "cut", .str "map", .str "clear", .str "back"])) = .ok false := by rfl
theorem wi_lines : inTR (.ok (.str (S L_lines))) (.ok (.tup [.str "put", .str "cut", .str "map", .str "clear", .str "back"])) = .ok false := by rfl
theorem wi_quarter : inTR (.ok (.str (S L_quarter))) (.ok (.tup [.str "put", .str "cut", .str "map", .str "clear", .str "back"])) = .ok false := by rfl
theorem wi_middle : inTR (.ok (.str (S L_middle))) (.ok (.tup [.str "put", .str "cut", .str "map", .str "clear", .str "back"])) = .ok false := by rfl
theorem wi_deepest : inTR (.ok (.str (S L_deepest))) (.ok (.tup [.str "put", .str "cut", .str "map", .str "clear", .str "back"])) = .ok false := by rfl
theorem wi_two : inTR (.ok (.str (S L_two))) (.ok (.tup [.str "put", .str "cut", .str "map", .str "clear", .str "back"])) = .ok false := by rfl
theorem wi_three : inTR (.ok (.str (S L_three))) (.ok (.tup [.str "put", .str "cut", .str "map", .str "clear", .str "back"])) = .ok false := by rfl
theorem wl_deepest : inTR (.ok (.str (S L_deepest))) (.ok (.tup [.str "lines", .str "fair", .str "quarter"])) = .ok false := by rfl
theorem wl_two : inTR (.ok (.str (S L_two))) (.ok (.tup [.str "lines", .str "fair", .str "quarter"])) = .ok false := by rfl
theorem wl_three : inTR (.ok (.str (S L_three))) (.ok (.tup [.str "lines", .str "fair", .str "quarter"])) = .ok false := by rfl
theorem k_put : m_kinds_behind [.str (S L_put)] = .ok (.fr (strsD [L_dot])) := by rfl
theorem k_cut : m_kinds_behind [.str (S L_cut)] = .ok (.fr (strsD [L_number])) := by rfl
theorem k_map : m_kinds_behind [.str (S L_map)] = .ok (.fr (strsD [L_entry, L_entry, L_entry, L_entry, L_entry, L_entry])) := by rfl
theorem k_clear : m_kinds_behind [.str (S L_clear)] = .ok (.fr (strsD [])) := by rfl
theorem k_back : m_kinds_behind [.str (S L_back)] = .ok (.fr (strsD [])) := by rfl
theorem k_dots : m_kinds_behind [.str (S L_dots)] = .ok (.fr (strsD [])) := by rfl
theorem k_fair : m_kinds_behind [.str (S L_fair)] = .ok (.fr (strsD [L_letter, L_letter])) := by rfl
theorem k_depth : m_kinds_behind [.str (S L_depth)] = .ok (.fr (strsD [L_place])) := by rfl
theorem k_in : m_kinds_behind [.str (S L_in)] = .ok (.fr (strsD [L_place])) := by rfl
theorem k_lines : m_kinds_behind [.str (S L_lines)] = .ok (.fr (strsD [])) := by rfl
theorem k_quarter : m_kinds_behind [.str (S L_quarter)] = .ok (.fr (strsD [])) := by rfl
theorem k_deepest : m_kinds_behind [.str (S L_deepest)] = .ok (.fr (strsD [])) := by rfl
theorem k_two : m_kinds_behind [.str (S L_two)] = .ok (.fr (strsD [])) := by rfl
theorem k_three : m_kinds_behind [.str (S L_three)] = .ok (.fr (strsD [])) := by rfl
local macro_rules | `(tactic| walk_at "wd") => `(tactic| ((try simp only [wd_put_clear, wd_put_map, wd_put_put, wd_put_back, wd_put_dots, wd_cut_clear, wd_cut_map, wd_cut_put, wd_cut_back, wd_cut_dots, wd_map_clear, wd_map_map, wd_map_put, wd_map_back, wd_map_dots, wd_clear_clear, wd_clear_map, wd_clear_put, wd_clear_back, wd_clear_dots, wd_back_clear, wd_back_map, wd_back_put, wd_back_back, wd_back_dots, wd_dots_clear, wd_dots_map, wd_dots_put, wd_dots_back, wd_dots_dots, wd_fair_clear, wd_fair_map, wd_fair_put, wd_fair_back, wd_fair_dots, wd_depth_clear, wd_depth_map, wd_depth_put, wd_depth_back, wd_depth_dots, wd_in_clear, wd_in_map, wd_in_put, wd_in_back, wd_in_dots, wd_lines_clear, wd_lines_map, wd_lines_put, wd_lines_back, wd_lines_dots, wd_quarter_clear, wd_quarter_map, wd_quarter_put, wd_quarter_back, wd_quarter_dots, wd_middle_clear, wd_middle_map, wd_middle_put, wd_middle_back, wd_middle_dots, wd_deepest_clear, wd_deepest_map, wd_deepest_put, wd_deepest_back, wd_deepest_dots, wd_two_clear, wd_two_map, wd_two_put, wd_two_back, wd_two_dots, wd_three_clear, wd_three_map, wd_three_put, wd_three_back, wd_three_dots, wd_dot_dot, wd_dot_number, wd_dot_entry, wd_dot_place, wd_number_dot, wd_number_number, wd_number_entry, wd_number_place, wd_entry_dot, wd_entry_number, wd_entry_entry, wd_entry_place, wd_place_dot, wd_place_number, wd_place_entry, wd_place_place, wd_letter_dot, wd_letter_number, wd_letter_entry, wd_letter_place, wi_put, wi_cut, wi_map, wi_clear, wi_back, wi_dots, wi_fair, wi_depth, wi_in, wi_lines, wi_quarter, wi_middle, wi_deepest, wi_two, wi_three, wl_deepest, wl_two, wl_three, ifF_dec, ifF_bool, reduceIte, Bool.false_eq_true]); (walk_at "ev")))
section
open TL NumText
theorem meant_dot {w : List Nat} {r : R D} (h : m_read_dot [.str (S w)] = retD r) : m_meant [.str (S L_dot), .str (S w)] = retD r := by
 unfold m_meant
 generalize m_read_dot = mr at h ⊢
 generalize m_meant_r3 = r3
 walk_at "ev"
 walk_at "wd"
 rw [h]
 cases r <;> rfl
theorem meant_number {w : List Nat} {r : R D} (h : m_int_of [.str (S w), .int 2] = retD r) : m_meant [.str (S L_number), .str (S w)] = retD r := by
 unfold m_meant m_meant_r3
 generalize m_read_dot = mrd
 generalize m_int_of = mr at h ⊢
 generalize m_meant_r2 = r3
 walk_at "ev"
 walk_at "wd"
 rw [h]
 cases r <;> rfl
theorem meant_entry {w : List Nat} {r : R D} (h : m_int_of [.str (S w), .int 12] = retD r) : m_meant [.str (S L_entry), .str (S w)] = retD r := by
 unfold m_meant m_meant_r3 m_meant_r2
 generalize m_read_dot = mrd
 generalize m_int_of = mr at h ⊢
 generalize m_meant_r1 = r3
 walk_at "ev"
 walk_at "wd"
 rw [h]
 cases r <;> rfl
theorem ch_map_ok {d : D} {ws ds : List D} (h : m_sent [d, .tup ws] = .ok (.fr ds)) : m_changed [d, .str (S L_map), .lst ws] = .ok (.fr ds) := by
 unfold m_changed m_changed_r3
 generalize m_sent = ms at h ⊢
 generalize m_changed_r2 = r3
 generalize m_changed_i1 = i1
 walk_at "ev"
 walk_at "wd"
 rw [h]
 rfl
theorem ch_map_er {d : D} {ws : List D} {n : Str} (h : m_sent [d, .tup ws] = .er n) : m_changed [d, .str (S L_map), .lst ws] = .er n := by
 unfold m_changed m_changed_r3
 generalize m_sent = ms at h ⊢
 generalize m_changed_r2 = r3
 generalize m_changed_i1 = i1
 walk_at "ev"
 walk_at "wd"
 rw [h]
 rfl
theorem quads_len (l : List P4) : (D.quads l).length = l.length := by unfold D.quads; rw [List.length_map]
theorem ch_put {r : List P4} {p : P4} (h : r.length ≤ 30) : m_changed [rowD r, .str (S L_put), .lst [q4 p]] = if r.length = 30 then .er "NoDots" else .ok (.fr (D.quads (r ++ [p]))) := by
 have hl := quads_len r
 have hz : sizeLine = 16777216 := sizeLine_eq
 have e1 : D.quads (r ++ [p]) = D.quads r ++ [q4 p] := by simp [D.quads]
 rw [e1]
 unfold m_changed m_changed_r3 m_changed_i1 rowD
 generalize m_sent = ms
 generalize m_changed_r2 = r3
 generalize D.quads r = QR at *
 generalize q4 p = QP
 walk_at "ev"
 walk_at "wd"
 by_cases c : r.length = 30
 ·rw [if_pos c, hl]
  (try rw [if_pos (by omega)])
  (try rfl)
 ·rw [if_neg c, hl]
  (try rw [if_neg (by omega)])
  (try rfl)
theorem cutD_to {l : List D} {k : Int} (h0 : 0 ≤ k) (h : k ≤ l.length) : cutD l none (some k) = l.take k.toNat := by
 unfold cutD HT.sIx
 dsimp only
 rw [if_neg (by omega), Nat.min_eq_left (by omega)]
 simp
theorem cutD_from {l : List D} {k : Int} (h0 : 0 ≤ k) (h : k ≤ l.length) : cutD l (some k) none = l.drop k.toNat := by
 unfold cutD HT.sIx
 dsimp only
 rw [if_neg (by omega), Nat.min_eq_left (by omega), List.take_of_length_le]
 rw [List.length_drop]
 exact Nat.le_refl _
theorem cutD_last {l : List D} {n : Nat} (h0 : 0 < n) : cutD l (some (-(n : Int))) none = l.drop (l.length - n) := by
 unfold cutD HT.sIx
 dsimp only
 rw [if_pos (by omega), show (-(n : Int) + (l.length : Int)).toNat = l.length - n by omega, List.take_of_length_le]
 rw [List.length_drop]
 exact Nat.le_refl _
theorem cutD_but {l : List D} : cutD l none (some (-1)) = l.dropLast := by
 unfold cutD HT.sIx
 dsimp only
 rw [if_pos (by omega), show (-1 + (l.length : Int)).toNat = l.length - 1 by omega, List.dropLast_eq_take]
 simp
theorem take_map' (r : List P4) (n : Nat) : (D.quads r).take n = D.quads (r.take n) := by unfold D.quads; rw [List.map_take]
theorem drop_map' (r : List P4) (n : Nat) : (D.quads r).drop n = D.quads (r.drop n) := by unfold D.quads; rw [List.map_drop]
theorem ch_cut {r : List P4} {k : Int} (h : r.length ≤ 30) : m_changed [rowD r, .str (S L_cut), .lst [.int k]] = if k < 0 ∨ (r.length : Int) ≤ k then .er "NoSuch" else .ok (.fr (D.quads (r.take k.toNat ++ r.drop (k.toNat + 1)))) := by
 have hl := quads_len r
 have hz : sizeLine = 16777216 := sizeLine_eq
 have c1 : 0 ≤ k → k < r.length → cutD (D.quads r) none (some k) = D.quads (r.take k.toNat) := fun h0 h1 => by rw [cutD_to h0 (by rw [hl]; omega), take_map']
 have c2 : 0 ≤ k → k < r.length → cutD (D.quads r) (some (k + 1)) none = D.quads (r.drop (k.toNat + 1)) := fun h0 h1 => by rw [cutD_from (by omega) (by rw [hl]; omega), drop_map', show (k + 1).toNat = k.toNat + 1 by omega]
 have l1 := quads_len (r.take k.toNat)
 have l2 := quads_len (r.drop (k.toNat + 1))
 rw [List.length_take] at l1
 rw [List.length_drop] at l2
 have e1 : D.quads (r.take k.toNat ++ r.drop (k.toNat + 1)) = D.quads (r.take k.toNat) ++ D.quads (r.drop (k.toNat + 1)) := by simp [D.quads]
 rw [e1]
 unfold m_changed m_changed_r3 m_changed_r2 m_changed_r1 rowD
 generalize m_sent = ms
 generalize m_changed_i1 = i1
 generalize D.quads (r.take k.toNat) = A at *
 generalize D.quads (r.drop (k.toNat + 1)) = B at *
 generalize D.quads r = QR at *
 walk_at "ev"
 walk_at "wd"
 rw [hl]
 by_cases c : k < 0
 ·rw [if_pos c, if_pos (Or.inl c)]
  rfl
 ·rw [if_neg c]
  by_cases c3 : (r.length : Int) ≤ k
  ·rw [if_pos (Or.inr c3), decide_eq_true c3]
   rfl
  ·have h0 : 0 ≤ k := by omega
   have h1 : k < r.length := by omega
   rw [if_neg (by omega), decide_eq_false c3]
   walk_at "ev"
   rw [c1 h0 h1, c2 h0 h1]
   walk_at "ev"
end
section
open TL NumText
theorem rows_sim (l : List (List P4)) : D.sim (.lst (l.map rowD)) = true := sims_map (f := rowD) (fun r => (sims_map q4_sim r : D.sims (D.quads r) = true)) l
theorem rows_dep (l : List (List P4)) : D.dep (.lst (l.map rowD)) ≤ 64 := by
 have := deps_map (f := rowD) (n := 3) (fun r => by
  have := deps_map (f := q4) (n := 1) (fun q => by show 1 ≤ 1; decide) r
  show D.deps _ + 1 ≤ 3
  unfold D.quads
  omega) l
 show D.deps _ + 1 ≤ 64
 omega
theorem eqD_rows0 (l : List (List P4)) : eqD (.lst (l.map rowD)) (.lst []) = .ok (decide (l = [])) := by
 rw [eqD_sim (rows_sim l) rfl (rows_dep l) (by decide)]
 congr 1
 apply decide_eq_decide.mpr
 cases l <;> simp
def lst20 {α : Type} (l : List α) : List α := l.drop (l.length - 20)
theorem cut20 (l : List D) : cutD l (some (-20)) none = lst20 l := cutD_last (n := 20) (by decide)
theorem lst20_map {α β : Type} (f : α → β) (l : List α) : lst20 (l.map f) = (lst20 l).map f := by unfold lst20; rw [List.length_map, List.map_drop]
theorem lst20_len {α : Type} (l : List α) : (lst20 l).length ≤ 20 := by unfold lst20; rw [List.length_drop]; omega
theorem lst20_mem {α : Type} {l : List α} {x : α} (h : x ∈ lst20 l) : x ∈ l := List.mem_of_mem_drop h
def Sh.next (s : Sh) (r : List P4) : Sh := ⟨r, lst20 (s.ear ++ [s.now])⟩
def Sh.back (s : Sh) : Sh := ⟨s.ear.getLastD [], s.ear.dropLast⟩
theorem done_ok {s : Sh} {v : List Nat} {ds : List D} {r : List P4} (hl : s.ear.length ≤ 20) (h : m_changed [rowD s.now, .str (S v), .lst ds] = .ok (.fr (D.quads r))) : m_Sheet_done [shU s] [.str (S v), .lst ds] = .ok .non [shU (s.next r)] := by
 have hz : sizeLine = 16777216 := sizeLine_eq
 have hr : (s.ear.map rowD).length = s.ear.length := List.length_map ..
 have c := cut20 (s.ear.map rowD ++ [rowD s.now])
 have e : shD (s.next r) = [.lst (D.quads r), .lst (lst20 (s.ear.map rowD ++ [rowD s.now]))] := by
  unfold shD Sh.next rowD
  dsimp only
  rw [← lst20_map, List.map_append]
  rfl
 unfold m_Sheet_done shU
 rw [e]
 generalize m_changed = mc at h ⊢
 unfold shD
 generalize rowD s.now = N at *
 generalize s.ear.map rowD = EA at *
 generalize D.quads r = QR at *
 walk_at "ev"
 rw [h]
 walk_at "ev"
 rw [c]
 walk_at "ev"
theorem done_er {s : Sh} {v : List Nat} {ds : List D} {n : Str} (h : m_changed [rowD s.now, .str (S v), .lst ds] = .er n) : m_Sheet_done [shU s] [.str (S v), .lst ds] = .er n [shU s] := by
 unfold m_Sheet_done shU
 generalize m_changed = mc at h ⊢
 unfold shD
 generalize rowD s.now = N at *
 generalize s.ear.map rowD = EA at *
 walk_at "ev"
 rw [h]
 walk_at "ev"
theorem undone_no {s : Sh} (h : s.ear = []) : m_Sheet_undone [shU s] [] = .er "TooFew" [shU s] := by
 have c := eqD_rows0 s.ear
 rw [decide_eq_true h] at c
 unfold m_Sheet_undone shU shD
 generalize rowD s.now = N at *
 generalize s.ear.map rowD = EA at *
 generalize m_Sheet_undone_r1 = r1
 walk_at "ev"
 rw [c]
 walk_at "ev"
theorem atR_last {l : List D} {d : D} : atR (l ++ [d]) (-1) = .ok (.im d) := by
 apply atR_ok
 unfold atI ixN
 rw [List.length_append, List.length_singleton]
 simp
 rw [if_pos (by omega), show (-1 + ((l.length : Int) + 1)).toNat = l.length by omega]
 simp
theorem undone_ok {s : Sh} (h : s.ear ≠ []) : m_Sheet_undone [shU s] [] = .ok .non [shU s.back] := by
 have c := eqD_rows0 s.ear
 rw [decide_eq_false h] at c
 obtain ⟨l, x, e⟩ : ∃ l x, s.ear = l ++ [x] := ⟨s.ear.dropLast, s.ear.getLast h, (List.dropLast_concat_getLast h).symm⟩
 have e1 : s.ear.map rowD = l.map rowD ++ [rowD x] := by rw [e]; simp
 have e2 : shD s.back = [rowD x, .lst (l.map rowD)] := by
  unfold shD Sh.back
  rw [e]
  simp
 have a1 := atR_last (l := l.map rowD) (d := rowD x)
 have a2 : cutD (l.map rowD ++ [rowD x]) none (some (-1)) = l.map rowD := by rw [cutD_but]; simp
 unfold m_Sheet_undone m_Sheet_undone_r1 shU
 rw [e2]
 unfold shD
 rw [e1] at c ⊢
 generalize rowD s.now = N at *
 generalize rowD x = RX at *
 generalize l.map rowD = LR at *
 walk_at "ev"
 rw [c]
 walk_at "ev"
 rw [a1]
 walk_at "ev"
 rw [a2]
 walk_at "ev"
end
section
open TL NumText
theorem spl_words {ws : List (List Nat)} (h : ∀ w ∈ ws, 32 ∉ w) (n : 2 ≤ ws.length ∨ ∀ w ∈ ws, w ≠ []) (ne : joinL [32] ws ≠ []) : spl [32] 0 [] (joinL [32] ws) = ws := by
 have := words_join h n
 unfold wordsL at this
 rwa [if_neg ne] at this
theorem len_str {n : Nat} (h : n ≤ 1000) : strcR (.ok (.int (n : Int))) = .ok (.im (.str (S (numZ (n : Int))))) := by
 unfold strcR
 dsimp only
 rw [if_pos, S_num]
 exact log_lt (by omega)
abbrev doV : D := .tup [.str "put", .str "cut", .str "map", .str "clear", .str "back"]
theorem rest_done {s s' : Sh} {row v : List Nat} {ds : List D} {ks : List (List Nat)} (hi : inTR (.ok (.str (S v))) (.ok doV) = .ok true) (hb : (S v == ("back" : Str)) = false) (hl : s'.now.length ≤ 1000) (h : m_Sheet_done [shU s] [.str (S v), .lst ds] = .ok .non [shU s']) :
  retL 1 (ask_rest ds s row v ks) = .ok (.str (S (numZ (s'.now.length : Int)))) [shU s'] := by
 have q := quads_len s'.now
 have l := len_str hl
 unfold ask_rest askD m_Sheet_ask_i1
 unfold shU at h ⊢
 rw [show shD s' = [rowD s'.now, .lst (s'.ear.map rowD)] from rfl] at h ⊢
 unfold rowD at h ⊢
 generalize m_Sheet_done = md at h ⊢
 generalize m_Sheet_undone = mu
 generalize m_Sheet_ask_r3 = r2
 generalize shD s = SD at *
 generalize D.quads s'.now = QN at *
 generalize s'.ear.map _ = EA at *
 walk_at "ev"
 rw [hi]
 walk_at "ev"
 rw [hb]
 walk_at "ev"
 rw [h]
 walk_at "ev"
 rw [q, l]
 walk_at "ev"
theorem rest_er {s : Sh} {row v : List Nat} {ds : List D} {ks : List (List Nat)} {n : Str} (hi : inTR (.ok (.str (S v))) (.ok doV) = .ok true) (hb : (S v == ("back" : Str)) = false) (h : m_Sheet_done [shU s] [.str (S v), .lst ds] = .er n [shU s]) :
  retL 1 (ask_rest ds s row v ks) = .er n [shU s] := by
 unfold ask_rest askD m_Sheet_ask_i1
 unfold shU at h ⊢
 generalize m_Sheet_done = md at h ⊢
 generalize m_Sheet_undone = mu
 generalize m_Sheet_ask_r3 = r2
 generalize shD s = SD at *
 walk_at "ev"
 rw [hi]
 walk_at "ev"
 rw [hb]
 walk_at "ev"
 rw [h]
 walk_at "ev"
theorem rest_back {s s' : Sh} {row : List Nat} {ds : List D} {ks : List (List Nat)} (hl : s'.now.length ≤ 1000) (h : m_Sheet_undone [shU s] [] = .ok .non [shU s']) :
  retL 1 (ask_rest ds s row L_back ks) = .ok (.str (S (numZ (s'.now.length : Int)))) [shU s'] := by
 have q := quads_len s'.now
 have l := len_str hl
 have hi := wi_back
 have hb := wd_back_back
 unfold ask_rest askD m_Sheet_ask_i1
 unfold shU at h ⊢
 rw [show shD s' = [rowD s'.now, .lst (s'.ear.map rowD)] from rfl] at h ⊢
 unfold rowD at h ⊢
 generalize L_back = LB at *
 generalize m_Sheet_done = md
 generalize m_Sheet_undone = mu at h ⊢
 generalize m_Sheet_ask_r3 = r2
 generalize shD s = SD at *
 generalize D.quads s'.now = QN at *
 generalize s'.ear.map _ = EA at *
 walk_at "ev"
 rw [hi]
 walk_at "ev"
 rw [hb]
 walk_at "ev"
 rw [h]
 walk_at "ev"
 rw [q, l]
 walk_at "ev"
theorem rest_back_er {s : Sh} {row : List Nat} {ds : List D} {ks : List (List Nat)} {n : Str} (h : m_Sheet_undone [shU s] [] = .er n [shU s]) : retL 1 (ask_rest ds s row L_back ks) = .er n [shU s] := by
 have hi := wi_back
 have hb := wd_back_back
 unfold ask_rest askD m_Sheet_ask_i1
 unfold shU at h ⊢
 generalize L_back = LB at *
 generalize m_Sheet_done = md
 generalize m_Sheet_undone = mu at h ⊢
 generalize m_Sheet_ask_r3 = r2
 generalize shD s = SD at *
 walk_at "ev"
 rw [hi]
 walk_at "ev"
 rw [hb]
 walk_at "ev"
 rw [h]
 walk_at "ev"
theorem rest_dots {s : Sh} {row : List Nat} {ds : List D} {ks : List (List Nat)} {z : List Nat} (h : m_show_dots [rowD s.now] = .ok (.im (.str (S z)))) : retL 1 (ask_rest ds s row L_dots ks) = .ok (.str (S z)) [shU s] := by
 have hi := wi_dots
 have hb := wd_dots_dots
 unfold ask_rest askD m_Sheet_ask_r3
 unfold shU
 rw [show shD s = [rowD s.now, .lst (s.ear.map rowD)] from rfl]
 generalize L_dots = LB at *
 generalize m_show_dots = md at *
 generalize m_Sheet_ask_i1 = i1
 generalize m_Sheet_ask_r2 = r2
 generalize rowD s.now = N at *
 generalize s.ear.map rowD = EA at *
 walk_at "ev"
 rw [hi]
 walk_at "ev"
 rw [hb]
 walk_at "ev"
 rw [h]
 walk_at "ev"
end
section
open TL NumText
structure GoodR (r : List P4) : Prop where
 len : r.length ≤ 30
 ok : ∀ p ∈ r, DotOk p
structure GoodSh (s : Sh) : Prop where
 now : GoodR s.now
 ear : s.ear.length ≤ 20
 rows : ∀ r ∈ s.ear, GoodR r
theorem GoodSh.next {s : Sh} (h : GoodSh s) {r : List P4} (hr : GoodR r) : GoodSh (s.next r) := ⟨hr, lst20_len _, fun x hx => by
 rcases List.mem_append.mp (lst20_mem hx) with z | z
 ·exact h.rows x z
 ·rw [List.mem_singleton.mp z]; exact h.now⟩
theorem GoodSh.back {s : Sh} (h : GoodSh s) (n : s.ear ≠ []) : GoodSh s.back := by
 obtain ⟨l, x, e⟩ : ∃ l x, s.ear = l ++ [x] := ⟨s.ear.dropLast, s.ear.getLast n, (List.dropLast_concat_getLast n).symm⟩
 have e1 : s.back.now = x := by show s.ear.getLastD [] = x; rw [e]; simp
 have e2 : s.back.ear = l := by show s.ear.dropLast = l; rw [e]; simp
 refine ⟨by rw [e1]; exact h.rows x (by rw [e]; simp), ?_, fun r hr => h.rows r ?_⟩
 ·have := h.ear
  rw [e2]
  rw [e, List.length_append] at this
  omega
 ·rw [e2] at hr
  rw [e]
  exact List.mem_append_left _ hr
theorem near_of {z : Int} (h : z.natAbs < 10 ^ 12) : nearZ z = true := nearZ_iff.2 (by omega)
theorem DotOk.cw {p : P4} (h : DotOk p) : CW p := ⟨⟨h.c.1, by have := h.c.2; omega⟩, h.w.1, by have := h.w.2; omega⟩
theorem DotOk.sz {p : P4} (h : DotOk p) : Sz 42 p.1 ∧ Sz 42 p.2.1 := ⟨nearZ_sz (near_of h.x), nearZ_sz (near_of h.y)⟩
theorem ask_put {s : Sh} {p : P4} (hs : GoodSh s) (hp : DotOk p) : m_Sheet_ask [shU s] [.str (S (joinL [32] [L_put, showDot p]))] = if s.now.length = 30 then .er "NoDots" [shU s] else .ok (.str (S (numZ (((s.now ++ [p]).length : Nat) : Int)))) [shU (s.next (s.now ++ [p]))] := by
 have l := showDot_len hp
 obtain ⟨d1, d2⟩ := showDot_sp hp
 have sp : spl [32] 0 [] (joinL [32] [L_put, showDot p]) = [L_put, showDot p] := spl_words (fun w hw => by
  rcases List.mem_cons.mp hw with z | z
  ·rw [z]; decide
  ·rw [List.mem_singleton.mp z]; exact d1) (.inl (by simp)) (by show L_put ++ _ ≠ []; simp)
 have rd : m_read_dot [.str (S (showDot p))] = retD (.ok (q4 p)) := (read_dot_ok (by omega)).1 p (read_show hp)
 have m := meant_dot rd
 have a := ask_all (s := s) (T := [(L_dot, showDot p, .ok (q4 p))]) (row := joinL [32] [L_put, showDot p]) (v := L_put) (by show (L_put ++ ([32] ++ showDot p)).length ≤ _; simp only [List.length_append, List.length_cons, List.length_nil]; omega) sp k_put (by simp) (fun t ht => by
  rw [List.mem_singleton.mp ht]
  exact m)
 rw [a]
 show retL 1 (ask_rest [q4 p] s _ L_put _) = _
 have c := ch_put (p := p) hs.now.len
 by_cases h30 : s.now.length = 30
 ·rw [if_pos h30] at c ⊢
  exact rest_er wi_put wd_put_back (done_er c)
 ·rw [if_neg h30] at c ⊢
  have hn : (s.next (s.now ++ [p])).now.length ≤ 1000 := by
   show (s.now ++ [p]).length ≤ 1000
   have := hs.now.len
   rw [List.length_append, List.length_singleton]
   omega
  exact rest_done wi_put wd_put_back hn (done_ok hs.ear c)
theorem ask_cut {s : Sh} {k : Int} (hs : GoodSh s) (hk : k.natAbs < 100) : m_Sheet_ask [shU s] [.str (S (joinL [32] [L_cut, numZ k]))] = if k < 0 ∨ (s.now.length : Int) ≤ k then .er "NoSuch" [shU s] else .ok (.str (S (numZ (((s.now.take k.toNat ++ s.now.drop (k.toNat + 1)).length : Nat) : Int)))) [shU (s.next (s.now.take k.toNat ++ s.now.drop (k.toNat + 1)))] := by
 have l := numZ_12 (z := k) (m := 2) (by decide) (by omega)
 have sp : spl [32] 0 [] (joinL [32] [L_cut, numZ k]) = [L_cut, numZ k] := spl_words (fun w hw => by
  rcases List.mem_cons.mp hw with z | z
  ·rw [z]; decide
  ·rw [List.mem_singleton.mp z]; exact numZ_free (by omega)) (.inl (by simp)) (by show L_cut ++ _ ≠ []; simp)
 have rd : m_int_of [.str (S (numZ k)), .int 2] = retD (.ok (.int k)) := by
  have := io_ok (t := numZ k) (m := 2) (by decide) (by omega)
  rw [intOf_num (by decide) (by omega)] at this
  exact this
 have m := meant_number rd
 have a := ask_all (s := s) (T := [(L_number, numZ k, .ok (.int k))]) (row := joinL [32] [L_cut, numZ k]) (v := L_cut) (by show (L_cut ++ ([32] ++ numZ k)).length ≤ _; simp only [List.length_append, List.length_cons, List.length_nil]; omega) sp k_cut (by simp) (fun t ht => by
  rw [List.mem_singleton.mp ht]
  exact m)
 rw [a]
 show retL 1 (ask_rest [.int k] s _ L_cut _) = _
 have c := ch_cut (k := k) hs.now.len
 by_cases h : k < 0 ∨ (s.now.length : Int) ≤ k
 ·rw [if_pos h] at c ⊢
  exact rest_er wi_cut wd_cut_back (done_er c)
 ·rw [if_neg h] at c ⊢
  refine rest_done wi_cut wd_cut_back ?_ (done_ok hs.ear c)
  show (s.now.take k.toNat ++ s.now.drop (k.toNat + 1)).length ≤ 1000
  have := hs.now.len
  rw [List.length_append, List.length_take, List.length_drop]
  omega
theorem ask_back {s : Sh} (hs : GoodSh s) : m_Sheet_ask [shU s] [.str (S L_back)] = if s.ear = [] then .er "TooFew" [shU s] else .ok (.str (S (numZ (s.back.now.length : Int)))) [shU s.back] := by
 have a := ask_all (s := s) (T := []) (row := L_back) (v := L_back) (by decide) (spl_words (ws := [L_back]) (by decide) (.inr (by decide)) (by decide)) k_back (by simp) (fun t ht => by cases ht)
 rw [a]
 show retL 1 (ask_rest [] s _ L_back _) = _
 by_cases h : s.ear = []
 ·rw [if_pos h]
  exact rest_back_er (undone_no h)
 ·rw [if_neg h]
  exact rest_back (by have := (hs.back h).now.len; omega) (undone_ok h)
theorem ask_dots {s : Sh} (hs : GoodSh s) : m_Sheet_ask [shU s] [.str (S L_dots)] = .ok (.str (S (joinL [32] (s.now.map showDot)))) [shU s] := by
 have a := ask_all (s := s) (T := []) (row := L_dots) (v := L_dots) (by decide) (spl_words (ws := [L_dots]) (by decide) (.inr (by decide)) (by decide)) k_dots (by simp) (fun t ht => by cases ht)
 rw [a]
 show retL 1 (ask_rest [] s _ L_dots _) = _
 exact rest_dots (show_dots_ok hs.now.ok (by have := hs.now.len; omega))
end
section
open TL NumText
theorem all_nil {α : Type} {P : α → Prop} : ∀ d ∈ ([] : List α), P d := fun d h => by cases h
theorem all_cons {α : Type} {P : α → Prop} {x : α} {l : List α} (h : P x) (k : ∀ d ∈ l, P d) : ∀ d ∈ x :: l, P d := fun d m => by
 rcases List.mem_cons.mp m with e | e
 ·rw [e]; exact h
 ·exact k d e
theorem ask_no {s : Sh} {row v : List Nat} {ws ks : List (List Nat)} (hl : row.length ≤ 90000) (h : spl [32] 0 [] row = v :: ws) (hk : m_kinds_behind [.str (S v)] = .ok (.fr (strsD ks))) (hn : ks.length ≠ ws.length) :
  m_Sheet_ask [shU s] [.str (S row)] = .er "NoAsk" [shU s] := by
 have e := split_row hl h
 rw [← lit_sp] at e
 have e3 : (strsD (v :: ws)).length = ws.length + 1 := by simp [strsD]
 have e4 : (strsD ks).length = ks.length := by simp [strsD]
 have e5 : atR (strsD (v :: ws)) 0 = .ok (.im (.str (S v))) := ev_at0
 unfold m_Sheet_ask shU
 rw [eu_fnl1]
 unfold m_Sheet_ask_r5
 generalize strsD (v :: ws) = W at *
 generalize strsD ks = KS at *
 generalize shD s = SD
 generalize m_kinds_behind = mk at *
 generalize m_Sheet_ask_r4 = r3
 walk_at "ev"
 rw [e]
 walk_at "ev"
 rw [e5]
 walk_at "ev"
 rw [hk]
 walk_at "ev"
 rw [e3, e4]
 walk_at "ev"
 rw [if_pos (by omega)]
 rfl
theorem ask_none {s : Sh} {row v : List Nat} {ws : List (List Nat)} (hl : row.length ≤ 90000) (h : spl [32] 0 [] row = v :: ws) (hk : m_kinds_behind [.str (S v)] = .ok (.im .non)) :
  m_Sheet_ask [shU s] [.str (S row)] = .er "NoAsk" [shU s] := by
 have e := split_row hl h
 rw [← lit_sp] at e
 have e5 : atR (strsD (v :: ws)) 0 = .ok (.im (.str (S v))) := ev_at0
 unfold m_Sheet_ask shU
 rw [eu_fnl1]
 unfold m_Sheet_ask_r5
 generalize strsD (v :: ws) = W at *
 generalize shD s = SD
 generalize m_kinds_behind = mk at *
 generalize m_Sheet_ask_r4 = r3
 walk_at "ev"
 rw [e]
 walk_at "ev"
 rw [e5]
 walk_at "ev"
 rw [hk]
 walk_at "ev"
theorem meant_place {w : List Nat} {r : R D} (h : m_read_place [.str (S w)] = retD r) : m_meant [.str (S L_place), .str (S w)] = retD r := by
 unfold m_meant m_meant_r3 m_meant_r2 m_meant_r1
 generalize m_read_dot = mrd
 generalize m_int_of = mi
 generalize m_read_place = mr at h ⊢
 generalize m_meant_b1 = b1
 walk_at "ev"
 walk_at "wd"
 rw [h]
 cases r <;> rfl
end
section
open TL NumText
theorem kn_ : m_kinds_behind [.str (S [])] = .ok (.im .non) := by rfl
theorem kn_Clear : m_kinds_behind [.str (S [67, 108, 101, 97, 114])] = .ok (.im .non) := by rfl
theorem kn_show : m_kinds_behind [.str (S [115, 104, 111, 119])] = .ok (.im .non) := by rfl
theorem kn_deep : m_kinds_behind [.str (S [100, 101, 101, 112])] = .ok (.im .non) := by rfl
theorem kn_undo : m_kinds_behind [.str (S [117, 110, 100, 111])] = .ok (.im .non) := by rfl
theorem ln_0 : ("" : Str) = S [] := by apply ext_tl; rfl
theorem na_0 (s : Sh) : m_Sheet_ask [shU s] [.str ""] = .er "NoAsk" [shU s] := by
 rw [ln_0]
 exact ask_none (row := []) (v := []) (ws := []) (by decide) (by decide) kn_
theorem ln_1 : (" " : Str) = S [32] := by apply ext_tl; rfl
theorem na_1 (s : Sh) : m_Sheet_ask [shU s] [.str " "] = .er "NoAsk" [shU s] := by
 rw [ln_1]
 exact ask_none (row := [32]) (v := []) (ws := [[]]) (by decide) (by decide) kn_
theorem ln_2 : ("dots " : Str) = S [100, 111, 116, 115, 32] := by apply ext_tl; rfl
theorem na_2 (s : Sh) : m_Sheet_ask [shU s] [.str "dots "] = .er "NoAsk" [shU s] := by
 rw [ln_2]
 exact ask_no (row := [100, 111, 116, 115, 32]) (v := L_dots) (ws := [[]]) (by decide) (by decide) k_dots (by decide)
theorem ln_3 : (" dots" : Str) = S [32, 100, 111, 116, 115] := by apply ext_tl; rfl
theorem na_3 (s : Sh) : m_Sheet_ask [shU s] [.str " dots"] = .er "NoAsk" [shU s] := by
 rw [ln_3]
 exact ask_none (row := [32, 100, 111, 116, 115]) (v := []) (ws := [[100, 111, 116, 115]]) (by decide) (by decide) kn_
theorem ln_4 : ("dots 1" : Str) = S [100, 111, 116, 115, 32, 49] := by apply ext_tl; rfl
theorem na_4 (s : Sh) : m_Sheet_ask [shU s] [.str "dots 1"] = .er "NoAsk" [shU s] := by
 rw [ln_4]
 exact ask_no (row := [100, 111, 116, 115, 32, 49]) (v := L_dots) (ws := [[49]]) (by decide) (by decide) k_dots (by decide)
theorem ln_5 : ("put" : Str) = S [112, 117, 116] := by apply ext_tl; rfl
theorem na_5 (s : Sh) : m_Sheet_ask [shU s] [.str "put"] = .er "NoAsk" [shU s] := by
 rw [ln_5]
 exact ask_no (row := [112, 117, 116]) (v := L_put) (ws := []) (by decide) (by decide) k_put (by decide)
theorem ln_6 : ("put a0:0 b1:1" : Str) = S [112, 117, 116, 32, 97, 48, 58, 48, 32, 98, 49, 58, 49] := by apply ext_tl; rfl
theorem na_6 (s : Sh) : m_Sheet_ask [shU s] [.str "put a0:0 b1:1"] = .er "NoAsk" [shU s] := by
 rw [ln_6]
 exact ask_no (row := [112, 117, 116, 32, 97, 48, 58, 48, 32, 98, 49, 58, 49]) (v := L_put) (ws := [[97, 48, 58, 48], [98, 49, 58, 49]]) (by decide) (by decide) k_put (by decide)
theorem ln_7 : ("put  a0:0" : Str) = S [112, 117, 116, 32, 32, 97, 48, 58, 48] := by apply ext_tl; rfl
theorem na_7 (s : Sh) : m_Sheet_ask [shU s] [.str "put  a0:0"] = .er "NoAsk" [shU s] := by
 rw [ln_7]
 exact ask_no (row := [112, 117, 116, 32, 32, 97, 48, 58, 48]) (v := L_put) (ws := [[], [97, 48, 58, 48]]) (by decide) (by decide) k_put (by decide)
theorem ln_8 : ("cut" : Str) = S [99, 117, 116] := by apply ext_tl; rfl
theorem na_8 (s : Sh) : m_Sheet_ask [shU s] [.str "cut"] = .er "NoAsk" [shU s] := by
 rw [ln_8]
 exact ask_no (row := [99, 117, 116]) (v := L_cut) (ws := []) (by decide) (by decide) k_cut (by decide)
theorem ln_9 : ("cut 0 1" : Str) = S [99, 117, 116, 32, 48, 32, 49] := by apply ext_tl; rfl
theorem na_9 (s : Sh) : m_Sheet_ask [shU s] [.str "cut 0 1"] = .er "NoAsk" [shU s] := by
 rw [ln_9]
 exact ask_no (row := [99, 117, 116, 32, 48, 32, 49]) (v := L_cut) (ws := [[48], [49]]) (by decide) (by decide) k_cut (by decide)
theorem ln_10 : ("map 1 0 0 1 0" : Str) = S [109, 97, 112, 32, 49, 32, 48, 32, 48, 32, 49, 32, 48] := by apply ext_tl; rfl
theorem na_10 (s : Sh) : m_Sheet_ask [shU s] [.str "map 1 0 0 1 0"] = .er "NoAsk" [shU s] := by
 rw [ln_10]
 exact ask_no (row := [109, 97, 112, 32, 49, 32, 48, 32, 48, 32, 49, 32, 48]) (v := L_map) (ws := [[49], [48], [48], [49], [48]]) (by decide) (by decide) k_map (by decide)
theorem ln_11 : ("map 1 0 0 1 0 0 0" : Str) = S [109, 97, 112, 32, 49, 32, 48, 32, 48, 32, 49, 32, 48, 32, 48, 32, 48] := by apply ext_tl; rfl
theorem na_11 (s : Sh) : m_Sheet_ask [shU s] [.str "map 1 0 0 1 0 0 0"] = .er "NoAsk" [shU s] := by
 rw [ln_11]
 exact ask_no (row := [109, 97, 112, 32, 49, 32, 48, 32, 48, 32, 49, 32, 48, 32, 48, 32, 48]) (v := L_map) (ws := [[49], [48], [48], [49], [48], [48], [48]]) (by decide) (by decide) k_map (by decide)
theorem ln_12 : ("Clear" : Str) = S [67, 108, 101, 97, 114] := by apply ext_tl; rfl
theorem na_12 (s : Sh) : m_Sheet_ask [shU s] [.str "Clear"] = .er "NoAsk" [shU s] := by
 rw [ln_12]
 exact ask_none (row := [67, 108, 101, 97, 114]) (v := [67, 108, 101, 97, 114]) (ws := []) (by decide) (by decide) kn_Clear
theorem ln_13 : ("clear 1" : Str) = S [99, 108, 101, 97, 114, 32, 49] := by apply ext_tl; rfl
theorem na_13 (s : Sh) : m_Sheet_ask [shU s] [.str "clear 1"] = .er "NoAsk" [shU s] := by
 rw [ln_13]
 exact ask_no (row := [99, 108, 101, 97, 114, 32, 49]) (v := L_clear) (ws := [[49]]) (by decide) (by decide) k_clear (by decide)
theorem ln_14 : ("back back" : Str) = S [98, 97, 99, 107, 32, 98, 97, 99, 107] := by apply ext_tl; rfl
theorem na_14 (s : Sh) : m_Sheet_ask [shU s] [.str "back back"] = .er "NoAsk" [shU s] := by
 rw [ln_14]
 exact ask_no (row := [98, 97, 99, 107, 32, 98, 97, 99, 107]) (v := L_back) (ws := [[98, 97, 99, 107]]) (by decide) (by decide) k_back (by decide)
theorem ln_15 : ("lines a" : Str) = S [108, 105, 110, 101, 115, 32, 97] := by apply ext_tl; rfl
theorem na_15 (s : Sh) : m_Sheet_ask [shU s] [.str "lines a"] = .er "NoAsk" [shU s] := by
 rw [ln_15]
 exact ask_no (row := [108, 105, 110, 101, 115, 32, 97]) (v := L_lines) (ws := [[97]]) (by decide) (by decide) k_lines (by decide)
theorem ln_16 : ("fair a" : Str) = S [102, 97, 105, 114, 32, 97] := by apply ext_tl; rfl
theorem na_16 (s : Sh) : m_Sheet_ask [shU s] [.str "fair a"] = .er "NoAsk" [shU s] := by
 rw [ln_16]
 exact ask_no (row := [102, 97, 105, 114, 32, 97]) (v := L_fair) (ws := [[97]]) (by decide) (by decide) k_fair (by decide)
theorem ln_17 : ("fair a b c" : Str) = S [102, 97, 105, 114, 32, 97, 32, 98, 32, 99] := by apply ext_tl; rfl
theorem na_17 (s : Sh) : m_Sheet_ask [shU s] [.str "fair a b c"] = .er "NoAsk" [shU s] := by
 rw [ln_17]
 exact ask_no (row := [102, 97, 105, 114, 32, 97, 32, 98, 32, 99]) (v := L_fair) (ws := [[97], [98], [99]]) (by decide) (by decide) k_fair (by decide)
theorem ln_18 : ("quarter 1" : Str) = S [113, 117, 97, 114, 116, 101, 114, 32, 49] := by apply ext_tl; rfl
theorem na_18 (s : Sh) : m_Sheet_ask [shU s] [.str "quarter 1"] = .er "NoAsk" [shU s] := by
 rw [ln_18]
 exact ask_no (row := [113, 117, 97, 114, 116, 101, 114, 32, 49]) (v := L_quarter) (ws := [[49]]) (by decide) (by decide) k_quarter (by decide)
theorem ln_19 : ("depth" : Str) = S [100, 101, 112, 116, 104] := by apply ext_tl; rfl
theorem na_19 (s : Sh) : m_Sheet_ask [shU s] [.str "depth"] = .er "NoAsk" [shU s] := by
 rw [ln_19]
 exact ask_no (row := [100, 101, 112, 116, 104]) (v := L_depth) (ws := []) (by decide) (by decide) k_depth (by decide)
theorem ln_20 : ("depth 0:0 1:1" : Str) = S [100, 101, 112, 116, 104, 32, 48, 58, 48, 32, 49, 58, 49] := by apply ext_tl; rfl
theorem na_20 (s : Sh) : m_Sheet_ask [shU s] [.str "depth 0:0 1:1"] = .er "NoAsk" [shU s] := by
 rw [ln_20]
 exact ask_no (row := [100, 101, 112, 116, 104, 32, 48, 58, 48, 32, 49, 58, 49]) (v := L_depth) (ws := [[48, 58, 48], [49, 58, 49]]) (by decide) (by decide) k_depth (by decide)
theorem ln_21 : ("in" : Str) = S [105, 110] := by apply ext_tl; rfl
theorem na_21 (s : Sh) : m_Sheet_ask [shU s] [.str "in"] = .er "NoAsk" [shU s] := by
 rw [ln_21]
 exact ask_no (row := [105, 110]) (v := L_in) (ws := []) (by decide) (by decide) k_in (by decide)
theorem ln_22 : ("show" : Str) = S [115, 104, 111, 119] := by apply ext_tl; rfl
theorem na_22 (s : Sh) : m_Sheet_ask [shU s] [.str "show"] = .er "NoAsk" [shU s] := by
 rw [ln_22]
 exact ask_none (row := [115, 104, 111, 119]) (v := [115, 104, 111, 119]) (ws := []) (by decide) (by decide) kn_show
theorem ln_23 : ("deep" : Str) = S [100, 101, 101, 112] := by apply ext_tl; rfl
theorem na_23 (s : Sh) : m_Sheet_ask [shU s] [.str "deep"] = .er "NoAsk" [shU s] := by
 rw [ln_23]
 exact ask_none (row := [100, 101, 101, 112]) (v := [100, 101, 101, 112]) (ws := []) (by decide) (by decide) kn_deep
theorem ln_24 : ("undo" : Str) = S [117, 110, 100, 111] := by apply ext_tl; rfl
theorem na_24 (s : Sh) : m_Sheet_ask [shU s] [.str "undo"] = .er "NoAsk" [shU s] := by
 rw [ln_24]
 exact ask_none (row := [117, 110, 100, 111]) (v := [117, 110, 100, 111]) (ws := []) (by decide) (by decide) kn_undo
theorem na_25 (s : Sh) : m_Sheet_ask [shU s] [.non] = .er "NoAsk" [shU s] := by rfl
theorem na_26 (s : Sh) : m_Sheet_ask [shU s] [.int 3] = .er "NoAsk" [shU s] := by rfl
theorem na_27 (s : Sh) : m_Sheet_ask [shU s] [.lst [.str "dots"]] = .er "NoAsk" [shU s] := by rfl
theorem na_28 (s : Sh) : m_Sheet_ask [shU s] [.bl true] = .er "NoAsk" [shU s] := by rfl
def naL : List D := [.str "", .str " ", .str "dots ", .str " dots", .str "dots 1", .str "put", .str "put a0:0 b1:1", .str "put  a0:0", .str "cut", .str "cut 0 1", .str "map 1 0 0 1 0", .str "map 1 0 0 1 0 0 0", .str "Clear", .str "clear 1", .str "back back", .str "lines a", .str "fair a", .str "fair a b c", .str "quarter 1", .str "depth", .str "depth 0:0 1:1", .str "in", .str "show", .str "deep", .str "undo", .non, .int 3, .lst [.str "dots"], .bl true]
theorem naL_all (s : Sh) : ∀ d ∈ naL, m_Sheet_ask [shU s] [d] = .er "NoAsk" [shU s] := by
 unfold naL
 refine all_cons (na_0 s) ?_
 refine all_cons (na_1 s) ?_
 refine all_cons (na_2 s) ?_
 refine all_cons (na_3 s) ?_
 refine all_cons (na_4 s) ?_
 refine all_cons (na_5 s) ?_
 refine all_cons (na_6 s) ?_
 refine all_cons (na_7 s) ?_
 refine all_cons (na_8 s) ?_
 refine all_cons (na_9 s) ?_
 refine all_cons (na_10 s) ?_
 refine all_cons (na_11 s) ?_
 refine all_cons (na_12 s) ?_
 refine all_cons (na_13 s) ?_
 refine all_cons (na_14 s) ?_
 refine all_cons (na_15 s) ?_
 refine all_cons (na_16 s) ?_
 refine all_cons (na_17 s) ?_
 refine all_cons (na_18 s) ?_
 refine all_cons (na_19 s) ?_
 refine all_cons (na_20 s) ?_
 refine all_cons (na_21 s) ?_
 refine all_cons (na_22 s) ?_
 refine all_cons (na_23 s) ?_
 refine all_cons (na_24 s) ?_
 refine all_cons (na_25 s) ?_
 refine all_cons (na_26 s) ?_
 refine all_cons (na_27 s) ?_
 refine all_cons (na_28 s) ?_
 exact all_nil
theorem naL_len : naL.length = 29 := by rfl
end
section
open TL NumText
theorem wm_0 : m_meant [.str (S L_dot), .str (S [])] = retD (.er "NoText") := meant_dot (r := .er "NoText") ((read_dot_ok (by decide)).2 (by decide +kernel))
theorem lt_0 : ("put " : Str) = S [112, 117, 116, 32] := by apply ext_tl; rfl
theorem nt_0 (s : Sh) : m_Sheet_ask [shU s] [.str "put "] = .er "NoText" [shU s] := by
 rw [lt_0]
 exact ask_all (s := s) (T := [(L_dot, [], .er "NoText")]) (row := [112, 117, 116, 32]) (v := L_put) (by decide) (by decide) k_put (by decide) (all_cons wm_0 all_nil)
theorem wm_1 : m_meant [.str (S L_dot), .str (S [97, 48])] = retD (.er "NoText") := meant_dot (r := .er "NoText") ((read_dot_ok (by decide)).2 (by decide +kernel))
theorem lt_1 : ("put a0" : Str) = S [112, 117, 116, 32, 97, 48] := by apply ext_tl; rfl
theorem nt_1 (s : Sh) : m_Sheet_ask [shU s] [.str "put a0"] = .er "NoText" [shU s] := by
 rw [lt_1]
 exact ask_all (s := s) (T := [(L_dot, [97, 48], .er "NoText")]) (row := [112, 117, 116, 32, 97, 48]) (v := L_put) (by decide) (by decide) k_put (by decide) (all_cons wm_1 all_nil)
theorem wm_2 : m_meant [.str (S L_dot), .str (S [100, 48, 58, 48])] = retD (.er "NoText") := meant_dot (r := .er "NoText") ((read_dot_ok (by decide)).2 (by decide +kernel))
theorem lt_2 : ("put d0:0" : Str) = S [112, 117, 116, 32, 100, 48, 58, 48] := by apply ext_tl; rfl
theorem nt_2 (s : Sh) : m_Sheet_ask [shU s] [.str "put d0:0"] = .er "NoText" [shU s] := by
 rw [lt_2]
 exact ask_all (s := s) (T := [(L_dot, [100, 48, 58, 48], .er "NoText")]) (row := [112, 117, 116, 32, 100, 48, 58, 48]) (v := L_put) (by decide) (by decide) k_put (by decide) (all_cons wm_2 all_nil)
theorem wm_3 : m_meant [.str (S L_dot), .str (S [97, 48, 58, 48, 119, 49])] = retD (.er "NoText") := meant_dot (r := .er "NoText") ((read_dot_ok (by decide)).2 (by decide +kernel))
theorem lt_3 : ("put a0:0w1" : Str) = S [112, 117, 116, 32, 97, 48, 58, 48, 119, 49] := by apply ext_tl; rfl
theorem nt_3 (s : Sh) : m_Sheet_ask [shU s] [.str "put a0:0w1"] = .er "NoText" [shU s] := by
 rw [lt_3]
 exact ask_all (s := s) (T := [(L_dot, [97, 48, 58, 48, 119, 49], .er "NoText")]) (row := [112, 117, 116, 32, 97, 48, 58, 48, 119, 49]) (v := L_put) (by decide) (by decide) k_put (by decide) (all_cons wm_3 all_nil)
theorem wm_4 : m_meant [.str (S L_dot), .str (S [97, 48, 48, 58, 48])] = retD (.er "NoText") := meant_dot (r := .er "NoText") ((read_dot_ok (by decide)).2 (by decide +kernel))
theorem lt_4 : ("put a00:0" : Str) = S [112, 117, 116, 32, 97, 48, 48, 58, 48] := by apply ext_tl; rfl
theorem nt_4 (s : Sh) : m_Sheet_ask [shU s] [.str "put a00:0"] = .er "NoText" [shU s] := by
 rw [lt_4]
 exact ask_all (s := s) (T := [(L_dot, [97, 48, 48, 58, 48], .er "NoText")]) (row := [112, 117, 116, 32, 97, 48, 48, 58, 48]) (v := L_put) (by decide) (by decide) k_put (by decide) (all_cons wm_4 all_nil)
theorem wm_5 : m_meant [.str (S L_number), .str (S [])] = retD (.er "NoText") := meant_number (r := .er "NoText") ((io_ok (t := []) (m := 2) (by decide) (by decide)).trans (by rw [show intOf 2 [] = none by decide +kernel]; rfl))
theorem lt_5 : ("cut " : Str) = S [99, 117, 116, 32] := by apply ext_tl; rfl
theorem nt_5 (s : Sh) : m_Sheet_ask [shU s] [.str "cut "] = .er "NoText" [shU s] := by
 rw [lt_5]
 exact ask_all (s := s) (T := [(L_number, [], .er "NoText")]) (row := [99, 117, 116, 32]) (v := L_cut) (by decide) (by decide) k_cut (by decide) (all_cons wm_5 all_nil)
theorem wm_6 : m_meant [.str (S L_number), .str (S [48, 48])] = retD (.er "NoText") := meant_number (r := .er "NoText") ((io_ok (t := [48, 48]) (m := 2) (by decide) (by decide)).trans (by rw [show intOf 2 [48, 48] = none by decide +kernel]; rfl))
theorem lt_6 : ("cut 00" : Str) = S [99, 117, 116, 32, 48, 48] := by apply ext_tl; rfl
theorem nt_6 (s : Sh) : m_Sheet_ask [shU s] [.str "cut 00"] = .er "NoText" [shU s] := by
 rw [lt_6]
 exact ask_all (s := s) (T := [(L_number, [48, 48], .er "NoText")]) (row := [99, 117, 116, 32, 48, 48]) (v := L_cut) (by decide) (by decide) k_cut (by decide) (all_cons wm_6 all_nil)
theorem wm_7 : m_meant [.str (S L_number), .str (S [43, 49])] = retD (.er "NoText") := meant_number (r := .er "NoText") ((io_ok (t := [43, 49]) (m := 2) (by decide) (by decide)).trans (by rw [show intOf 2 [43, 49] = none by decide +kernel]; rfl))
theorem lt_7 : ("cut +1" : Str) = S [99, 117, 116, 32, 43, 49] := by apply ext_tl; rfl
theorem nt_7 (s : Sh) : m_Sheet_ask [shU s] [.str "cut +1"] = .er "NoText" [shU s] := by
 rw [lt_7]
 exact ask_all (s := s) (T := [(L_number, [43, 49], .er "NoText")]) (row := [99, 117, 116, 32, 43, 49]) (v := L_cut) (by decide) (by decide) k_cut (by decide) (all_cons wm_7 all_nil)
theorem wm_8 : m_meant [.str (S L_number), .str (S [49, 48, 48])] = retD (.er "NoText") := meant_number (r := .er "NoText") ((io_ok (t := [49, 48, 48]) (m := 2) (by decide) (by decide)).trans (by rw [show intOf 2 [49, 48, 48] = none by decide +kernel]; rfl))
theorem lt_8 : ("cut 100" : Str) = S [99, 117, 116, 32, 49, 48, 48] := by apply ext_tl; rfl
theorem nt_8 (s : Sh) : m_Sheet_ask [shU s] [.str "cut 100"] = .er "NoText" [shU s] := by
 rw [lt_8]
 exact ask_all (s := s) (T := [(L_number, [49, 48, 48], .er "NoText")]) (row := [99, 117, 116, 32, 49, 48, 48]) (v := L_cut) (by decide) (by decide) k_cut (by decide) (all_cons wm_8 all_nil)
theorem wm_9 : m_meant [.str (S L_number), .str (S [120])] = retD (.er "NoText") := meant_number (r := .er "NoText") ((io_ok (t := [120]) (m := 2) (by decide) (by decide)).trans (by rw [show intOf 2 [120] = none by decide +kernel]; rfl))
theorem lt_9 : ("cut x" : Str) = S [99, 117, 116, 32, 120] := by apply ext_tl; rfl
theorem nt_9 (s : Sh) : m_Sheet_ask [shU s] [.str "cut x"] = .er "NoText" [shU s] := by
 rw [lt_9]
 exact ask_all (s := s) (T := [(L_number, [120], .er "NoText")]) (row := [99, 117, 116, 32, 120]) (v := L_cut) (by decide) (by decide) k_cut (by decide) (all_cons wm_9 all_nil)
theorem wm_10 : m_meant [.str (S L_entry), .str (S [49])] = retD (.ok (.int 1)) := meant_entry (r := .ok (.int 1)) ((io_ok (t := [49]) (m := 12) (by decide) (by decide)).trans (by rw [show intOf 12 [49] = some 1 by decide +kernel]; rfl))
theorem wm_11 : m_meant [.str (S L_entry), .str (S [48])] = retD (.ok (.int 0)) := meant_entry (r := .ok (.int 0)) ((io_ok (t := [48]) (m := 12) (by decide) (by decide)).trans (by rw [show intOf 12 [48] = some 0 by decide +kernel]; rfl))
theorem wm_12 : m_meant [.str (S L_entry), .str (S [120])] = retD (.er "NoText") := meant_entry (r := .er "NoText") ((io_ok (t := [120]) (m := 12) (by decide) (by decide)).trans (by rw [show intOf 12 [120] = none by decide +kernel]; rfl))
theorem lt_10 : ("map 1 0 0 1 0 x" : Str) = S [109, 97, 112, 32, 49, 32, 48, 32, 48, 32, 49, 32, 48, 32, 120] := by apply ext_tl; rfl
theorem nt_10 (s : Sh) : m_Sheet_ask [shU s] [.str "map 1 0 0 1 0 x"] = .er "NoText" [shU s] := by
 rw [lt_10]
 exact ask_all (s := s) (T := [(L_entry, [49], .ok (.int 1)), (L_entry, [48], .ok (.int 0)), (L_entry, [48], .ok (.int 0)), (L_entry, [49], .ok (.int 1)), (L_entry, [48], .ok (.int 0)), (L_entry, [120], .er "NoText")]) (row := [109, 97, 112, 32, 49, 32, 48, 32, 48, 32, 49, 32, 48, 32, 120]) (v := L_map) (by decide) (by decide) k_map (by decide) (all_cons wm_10 (all_cons wm_11 (all_cons wm_11 (all_cons wm_10 (all_cons wm_11 (all_cons wm_12 all_nil))))))
theorem wm_13 : m_meant [.str (S L_entry), .str (S [45, 48])] = retD (.er "NoText") := meant_entry (r := .er "NoText") ((io_ok (t := [45, 48]) (m := 12) (by decide) (by decide)).trans (by rw [show intOf 12 [45, 48] = none by decide +kernel]; rfl))
theorem lt_11 : ("map 1 0 0 1 0 -0" : Str) = S [109, 97, 112, 32, 49, 32, 48, 32, 48, 32, 49, 32, 48, 32, 45, 48] := by apply ext_tl; rfl
theorem nt_11 (s : Sh) : m_Sheet_ask [shU s] [.str "map 1 0 0 1 0 -0"] = .er "NoText" [shU s] := by
 rw [lt_11]
 exact ask_all (s := s) (T := [(L_entry, [49], .ok (.int 1)), (L_entry, [48], .ok (.int 0)), (L_entry, [48], .ok (.int 0)), (L_entry, [49], .ok (.int 1)), (L_entry, [48], .ok (.int 0)), (L_entry, [45, 48], .er "NoText")]) (row := [109, 97, 112, 32, 49, 32, 48, 32, 48, 32, 49, 32, 48, 32, 45, 48]) (v := L_map) (by decide) (by decide) k_map (by decide) (all_cons wm_10 (all_cons wm_11 (all_cons wm_11 (all_cons wm_10 (all_cons wm_11 (all_cons wm_13 all_nil))))))
theorem wm_14 : m_meant [.str (S L_entry), .str (S [49, 48, 48, 48, 48, 48, 48, 48, 48, 48, 48, 48, 48])] = retD (.er "NoText") := meant_entry (r := .er "NoText") ((io_ok (t := [49, 48, 48, 48, 48, 48, 48, 48, 48, 48, 48, 48, 48]) (m := 12) (by decide) (by decide)).trans (by rw [show intOf 12 [49, 48, 48, 48, 48, 48, 48, 48, 48, 48, 48, 48, 48] = none by decide +kernel]; rfl))
theorem lt_12 : ("map 0 0 0 0 0 1000000000000" : Str) = S [109, 97, 112, 32, 48, 32, 48, 32, 48, 32, 48, 32, 48, 32, 49, 48, 48, 48, 48, 48, 48, 48, 48, 48, 48, 48, 48] := by apply ext_tl; rfl
theorem nt_12 (s : Sh) : m_Sheet_ask [shU s] [.str "map 0 0 0 0 0 1000000000000"] = .er "NoText" [shU s] := by
 rw [lt_12]
 exact ask_all (s := s) (T := [(L_entry, [48], .ok (.int 0)), (L_entry, [48], .ok (.int 0)), (L_entry, [48], .ok (.int 0)), (L_entry, [48], .ok (.int 0)), (L_entry, [48], .ok (.int 0)), (L_entry, [49, 48, 48, 48, 48, 48, 48, 48, 48, 48, 48, 48, 48], .er "NoText")]) (row := [109, 97, 112, 32, 48, 32, 48, 32, 48, 32, 48, 32, 48, 32, 49, 48, 48, 48, 48, 48, 48, 48, 48, 48, 48, 48, 48]) (v := L_map) (by decide) (by decide) k_map (by decide) (all_cons wm_11 (all_cons wm_11 (all_cons wm_11 (all_cons wm_11 (all_cons wm_11 (all_cons wm_14 all_nil))))))
theorem wm_15 : m_meant [.str (S L_letter), .str (S [97])] = retD (.ok (.int 0)) := by rfl
theorem wm_16 : m_meant [.str (S L_letter), .str (S [100])] = retD (.er "NoText") := by rfl
theorem lt_13 : ("fair a d" : Str) = S [102, 97, 105, 114, 32, 97, 32, 100] := by apply ext_tl; rfl
theorem nt_13 (s : Sh) : m_Sheet_ask [shU s] [.str "fair a d"] = .er "NoText" [shU s] := by
 rw [lt_13]
 exact ask_all (s := s) (T := [(L_letter, [97], .ok (.int 0)), (L_letter, [100], .er "NoText")]) (row := [102, 97, 105, 114, 32, 97, 32, 100]) (v := L_fair) (by decide) (by decide) k_fair (by decide) (all_cons wm_15 (all_cons wm_16 all_nil))
theorem wm_17 : m_meant [.str (S L_letter), .str (S [])] = retD (.er "NoText") := by rfl
theorem wm_18 : m_meant [.str (S L_letter), .str (S [98])] = retD (.ok (.int 1)) := by rfl
theorem lt_14 : ("fair  b" : Str) = S [102, 97, 105, 114, 32, 32, 98] := by apply ext_tl; rfl
theorem nt_14 (s : Sh) : m_Sheet_ask [shU s] [.str "fair  b"] = .er "NoText" [shU s] := by
 rw [lt_14]
 exact ask_all (s := s) (T := [(L_letter, [], .er "NoText"), (L_letter, [98], .ok (.int 1))]) (row := [102, 97, 105, 114, 32, 32, 98]) (v := L_fair) (by decide) (by decide) k_fair (by decide) (all_cons wm_17 (all_cons wm_18 all_nil))
theorem wm_19 : m_meant [.str (S L_letter), .str (S [65])] = retD (.er "NoText") := by rfl
theorem lt_15 : ("fair A b" : Str) = S [102, 97, 105, 114, 32, 65, 32, 98] := by apply ext_tl; rfl
theorem nt_15 (s : Sh) : m_Sheet_ask [shU s] [.str "fair A b"] = .er "NoText" [shU s] := by
 rw [lt_15]
 exact ask_all (s := s) (T := [(L_letter, [65], .er "NoText"), (L_letter, [98], .ok (.int 1))]) (row := [102, 97, 105, 114, 32, 65, 32, 98]) (v := L_fair) (by decide) (by decide) k_fair (by decide) (all_cons wm_19 (all_cons wm_18 all_nil))
theorem wm_20 : m_meant [.str (S L_letter), .str (S [97, 98])] = retD (.er "NoText") := by rfl
theorem wm_21 : m_meant [.str (S L_letter), .str (S [99])] = retD (.ok (.int 2)) := by rfl
theorem lt_16 : ("fair ab c" : Str) = S [102, 97, 105, 114, 32, 97, 98, 32, 99] := by apply ext_tl; rfl
theorem nt_16 (s : Sh) : m_Sheet_ask [shU s] [.str "fair ab c"] = .er "NoText" [shU s] := by
 rw [lt_16]
 exact ask_all (s := s) (T := [(L_letter, [97, 98], .er "NoText"), (L_letter, [99], .ok (.int 2))]) (row := [102, 97, 105, 114, 32, 97, 98, 32, 99]) (v := L_fair) (by decide) (by decide) k_fair (by decide) (all_cons wm_20 (all_cons wm_21 all_nil))
theorem wm_22 : m_meant [.str (S L_letter), .str (S [98, 99])] = retD (.er "NoText") := by rfl
theorem lt_17 : ("fair c bc" : Str) = S [102, 97, 105, 114, 32, 99, 32, 98, 99] := by apply ext_tl; rfl
theorem nt_17 (s : Sh) : m_Sheet_ask [shU s] [.str "fair c bc"] = .er "NoText" [shU s] := by
 rw [lt_17]
 exact ask_all (s := s) (T := [(L_letter, [99], .ok (.int 2)), (L_letter, [98, 99], .er "NoText")]) (row := [102, 97, 105, 114, 32, 99, 32, 98, 99]) (v := L_fair) (by decide) (by decide) k_fair (by decide) (all_cons wm_21 (all_cons wm_22 all_nil))
theorem wm_23 : m_meant [.str (S L_place), .str (S [48])] = retD (.er "NoText") := meant_place (r := .er "NoText") ((read_ok (by decide)).2 (by decide +kernel))
theorem lt_18 : ("depth 0" : Str) = S [100, 101, 112, 116, 104, 32, 48] := by apply ext_tl; rfl
theorem nt_18 (s : Sh) : m_Sheet_ask [shU s] [.str "depth 0"] = .er "NoText" [shU s] := by
 rw [lt_18]
 exact ask_all (s := s) (T := [(L_place, [48], .er "NoText")]) (row := [100, 101, 112, 116, 104, 32, 48]) (v := L_depth) (by decide) (by decide) k_depth (by decide) (all_cons wm_23 all_nil)
theorem wm_24 : m_meant [.str (S L_place), .str (S [50, 64, 50, 58, 52])] = retD (.er "NoText") := meant_place (r := .er "NoText") ((read_ok (by decide)).2 (by decide +kernel))
theorem lt_19 : ("depth 2@2:4" : Str) = S [100, 101, 112, 116, 104, 32, 50, 64, 50, 58, 52] := by apply ext_tl; rfl
theorem nt_19 (s : Sh) : m_Sheet_ask [shU s] [.str "depth 2@2:4"] = .er "NoText" [shU s] := by
 rw [lt_19]
 exact ask_all (s := s) (T := [(L_place, [50, 64, 50, 58, 52], .er "NoText")]) (row := [100, 101, 112, 116, 104, 32, 50, 64, 50, 58, 52]) (v := L_depth) (by decide) (by decide) k_depth (by decide) (all_cons wm_24 all_nil)
theorem wm_25 : m_meant [.str (S L_place), .str (S [49, 64, 48, 58, 48])] = retD (.er "NoText") := meant_place (r := .er "NoText") ((read_ok (by decide)).2 (by decide +kernel))
theorem lt_20 : ("depth 1@0:0" : Str) = S [100, 101, 112, 116, 104, 32, 49, 64, 48, 58, 48] := by apply ext_tl; rfl
theorem nt_20 (s : Sh) : m_Sheet_ask [shU s] [.str "depth 1@0:0"] = .er "NoText" [shU s] := by
 rw [lt_20]
 exact ask_all (s := s) (T := [(L_place, [49, 64, 48, 58, 48], .er "NoText")]) (row := [100, 101, 112, 116, 104, 32, 49, 64, 48, 58, 48]) (v := L_depth) (by decide) (by decide) k_depth (by decide) (all_cons wm_25 all_nil)
theorem wm_26 : m_meant [.str (S L_place), .str (S [48, 44, 48])] = retD (.er "NoText") := meant_place (r := .er "NoText") ((read_ok (by decide)).2 (by decide +kernel))
theorem lt_21 : ("in 0,0" : Str) = S [105, 110, 32, 48, 44, 48] := by apply ext_tl; rfl
theorem nt_21 (s : Sh) : m_Sheet_ask [shU s] [.str "in 0,0"] = .er "NoText" [shU s] := by
 rw [lt_21]
 exact ask_all (s := s) (T := [(L_place, [48, 44, 48], .er "NoText")]) (row := [105, 110, 32, 48, 44, 48]) (v := L_in) (by decide) (by decide) k_in (by decide) (all_cons wm_26 all_nil)
theorem wm_27 : m_meant [.str (S L_place), .str (S [])] = retD (.er "NoText") := meant_place (r := .er "NoText") ((read_ok (by decide)).2 (by decide +kernel))
theorem lt_22 : ("in " : Str) = S [105, 110, 32] := by apply ext_tl; rfl
theorem nt_22 (s : Sh) : m_Sheet_ask [shU s] [.str "in "] = .er "NoText" [shU s] := by
 rw [lt_22]
 exact ask_all (s := s) (T := [(L_place, [], .er "NoText")]) (row := [105, 110, 32]) (v := L_in) (by decide) (by decide) k_in (by decide) (all_cons wm_27 all_nil)
theorem wm_28 : m_meant [.str (S L_place), .str (S [48, 64, 49, 58, 49])] = retD (.er "NoText") := meant_place (r := .er "NoText") ((read_ok (by decide)).2 (by decide +kernel))
theorem lt_23 : ("in 0@1:1" : Str) = S [105, 110, 32, 48, 64, 49, 58, 49] := by apply ext_tl; rfl
theorem nt_23 (s : Sh) : m_Sheet_ask [shU s] [.str "in 0@1:1"] = .er "NoText" [shU s] := by
 rw [lt_23]
 exact ask_all (s := s) (T := [(L_place, [48, 64, 49, 58, 49], .er "NoText")]) (row := [105, 110, 32, 48, 64, 49, 58, 49]) (v := L_in) (by decide) (by decide) k_in (by decide) (all_cons wm_28 all_nil)
theorem wm_29 : m_meant [.str (S L_entry), .str (S [])] = retD (.er "NoText") := meant_entry (r := .er "NoText") ((io_ok (t := []) (m := 12) (by decide) (by decide)).trans (by rw [show intOf 12 [] = none by decide +kernel]; rfl))
theorem lt_24 : ("map 0 0 0 0 0 " : Str) = S [109, 97, 112, 32, 48, 32, 48, 32, 48, 32, 48, 32, 48, 32] := by apply ext_tl; rfl
theorem nt_24 (s : Sh) : m_Sheet_ask [shU s] [.str "map 0 0 0 0 0 "] = .er "NoText" [shU s] := by
 rw [lt_24]
 exact ask_all (s := s) (T := [(L_entry, [48], .ok (.int 0)), (L_entry, [48], .ok (.int 0)), (L_entry, [48], .ok (.int 0)), (L_entry, [48], .ok (.int 0)), (L_entry, [48], .ok (.int 0)), (L_entry, [], .er "NoText")]) (row := [109, 97, 112, 32, 48, 32, 48, 32, 48, 32, 48, 32, 48, 32]) (v := L_map) (by decide) (by decide) k_map (by decide) (all_cons wm_11 (all_cons wm_11 (all_cons wm_11 (all_cons wm_11 (all_cons wm_11 (all_cons wm_29 all_nil))))))
def ntL : List D := [.str "put ", .str "put a0", .str "put d0:0", .str "put a0:0w1", .str "put a00:0", .str "cut ", .str "cut 00", .str "cut +1", .str "cut 100", .str "cut x", .str "map 1 0 0 1 0 x", .str "map 1 0 0 1 0 -0", .str "map 0 0 0 0 0 1000000000000", .str "fair a d", .str "fair  b", .str "fair A b", .str "fair ab c", .str "fair c bc", .str "depth 0", .str "depth 2@2:4", .str "depth 1@0:0", .str "in 0,0", .str "in ", .str "in 0@1:1", .str "map 0 0 0 0 0 "]
theorem ntL_all (s : Sh) : ∀ d ∈ ntL, m_Sheet_ask [shU s] [d] = .er "NoText" [shU s] := by
 unfold ntL
 refine all_cons (nt_0 s) ?_
 refine all_cons (nt_1 s) ?_
 refine all_cons (nt_2 s) ?_
 refine all_cons (nt_3 s) ?_
 refine all_cons (nt_4 s) ?_
 refine all_cons (nt_5 s) ?_
 refine all_cons (nt_6 s) ?_
 refine all_cons (nt_7 s) ?_
 refine all_cons (nt_8 s) ?_
 refine all_cons (nt_9 s) ?_
 refine all_cons (nt_10 s) ?_
 refine all_cons (nt_11 s) ?_
 refine all_cons (nt_12 s) ?_
 refine all_cons (nt_13 s) ?_
 refine all_cons (nt_14 s) ?_
 refine all_cons (nt_15 s) ?_
 refine all_cons (nt_16 s) ?_
 refine all_cons (nt_17 s) ?_
 refine all_cons (nt_18 s) ?_
 refine all_cons (nt_19 s) ?_
 refine all_cons (nt_20 s) ?_
 refine all_cons (nt_21 s) ?_
 refine all_cons (nt_22 s) ?_
 refine all_cons (nt_23 s) ?_
 refine all_cons (nt_24 s) ?_
 exact all_nil
theorem ntL_len : ntL.length = 25 := by rfl
end
section
open TL NumText
def mRow (m : M6) : List (List Nat) := [numZ m.a, numZ m.b, numZ m.c, numZ m.d, numZ m.e, numZ m.f]
structure NearM (m : M6) : Prop where
 a : m.a.natAbs < 10 ^ 12
 b : m.b.natAbs < 10 ^ 12
 c : m.c.natAbs < 10 ^ 12
 d : m.d.natAbs < 10 ^ 12
 e : m.e.natAbs < 10 ^ 12
 f : m.f.natAbs < 10 ^ 12
theorem entry_ok {z : Int} (h : z.natAbs < 10 ^ 12) : m_int_of [.str (S (numZ z)), .int 12] = retD (.ok (.int z)) := by
 have l := numZ_12 (z := z) (m := 12) (by decide) h
 have := io_ok (t := numZ z) (m := 12) (by decide) (by omega)
 rw [intOf_num (by decide) h] at this
 exact this
theorem ask_map' {s : Sh} {m : M6} (hs : GoodSh s) (hm : NearM m) : m_Sheet_ask [shU s] [.str (S (joinL [32] (L_map :: mRow m)))] = if m.a * m.d = m.b * m.c then .er "NoMap" [shU s] else if (s.now.map (sentQ m)).all nearQ = true then .ok (.str (S (numZ (((s.now.map (sentQ m)).length : Nat) : Int)))) [shU (s.next (s.now.map (sentQ m)))] else .er "NoDots" [shU s] := by
 have ll : ∀ w ∈ mRow m, w.length ≤ 13 ∧ 32 ∉ w := fun w hw => by
  simp only [mRow, List.mem_cons, List.not_mem_nil, or_false] at hw
  have go : ∀ z : Int, z.natAbs < 10 ^ 12 → (numZ z).length ≤ 13 ∧ 32 ∉ numZ z := fun z hz => ⟨numZ_12 (m := 12) (by decide) hz, numZ_free (by omega)⟩
  rcases hw with rfl | rfl | rfl | rfl | rfl | rfl
  ·exact go _ hm.a
  ·exact go _ hm.b
  ·exact go _ hm.c
  ·exact go _ hm.d
  ·exact go _ hm.e
  ·exact go _ hm.f
 have sp : spl [32] 0 [] (joinL [32] (L_map :: mRow m)) = L_map :: mRow m := spl_words (fun w hw => by
  rcases List.mem_cons.mp hw with z | z
  ·rw [z]; decide
  ·exact (ll w z).2) (.inl (by simp [mRow])) (by show L_map ++ _ ≠ []; simp)
 have len := joinL_len (N := 13) (ps := L_map :: mRow m) (fun w hw => by
  rcases List.mem_cons.mp hw with z | z
  ·rw [z]; decide
  ·exact (ll w z).1)
 have a := ask_all (s := s) (T := [(L_entry, numZ m.a, .ok (.int m.a)), (L_entry, numZ m.b, .ok (.int m.b)), (L_entry, numZ m.c, .ok (.int m.c)), (L_entry, numZ m.d, .ok (.int m.d)), (L_entry, numZ m.e, .ok (.int m.e)), (L_entry, numZ m.f, .ok (.int m.f))]) (row := joinL [32] (L_map :: mRow m)) (v := L_map)
  (by have e : (L_map :: mRow m).length = 7 := rfl; rw [e] at len; omega) sp k_map (by simp) (fun t ht => by
  simp only [List.mem_cons, List.not_mem_nil, or_false] at ht
  rcases ht with rfl | rfl | rfl | rfl | rfl | rfl
  ·exact meant_entry (entry_ok hm.a)
  ·exact meant_entry (entry_ok hm.b)
  ·exact meant_entry (entry_ok hm.c)
  ·exact meant_entry (entry_ok hm.d)
  ·exact meant_entry (entry_ok hm.e)
  ·exact meant_entry (entry_ok hm.f))
 rw [a]
 show retL 1 (ask_rest [.int m.a, .int m.b, .int m.c, .int m.d, .int m.e, .int m.f] s _ L_map _) = _
 by_cases hf : m.a * m.d = m.b * m.c
 ·rw [if_pos hf]
  refine rest_er wi_map wd_map_back (done_er (ch_map_er (sent_bad ?_)))
  exact (ask6 ..).trans (if_neg fun z => z.2 hf)
 ·rw [if_neg hf]
  have ok : MOk m := ⟨⟨near_of hm.a, near_of hm.b, near_of hm.c, near_of hm.d, near_of hm.e, near_of hm.f⟩, hf⟩
  rcases sent_ok ok hs.now.len (fun q hq => (hs.now.ok q hq).cw) (fun q hq => (hs.now.ok q hq).sz) with ⟨h1, h2⟩ | ⟨h1, h2⟩
  ·rw [if_pos h1]
   refine rest_done wi_map wd_map_back ?_ (done_ok hs.ear (ch_map_ok h2))
   show (s.now.map (sentQ m)).length ≤ 1000
   have := hs.now.len
   rw [List.length_map]
   omega
  ·rw [if_neg (by rw [h1]; decide)]
   exact rest_er wi_map wd_map_back (done_er (ch_map_er h2))
structure Xs (xs : List Int) (n : Nat) : Prop where
 len : n ≤ xs.length
 ok : ∀ z ∈ xs, 0 ≤ z ∧ z < 1000000000
theorem Xs.at {xs : List Int} {n : Nat} (h : Xs xs n) {k : Nat} (hk : k < n) : ∃ z, atR (D.ints xs) (k : Int) = .ok (.im (.int z)) ∧ 0 ≤ z ∧ z < 1000000000 := by
 have hl := h.len
 refine ⟨cellZ xs k, atR_ints (by omega) (by omega), ?_⟩
 unfold cellZ
 rw [Int.toNat_natCast, List.getD_eq_getElem?_getD, List.getElem?_eq_getElem (by omega)]
 exact h.ok _ (List.getElem_mem _)
theorem Xs.mono {xs : List Int} {n m : Nat} (h : Xs xs n) (l : m ≤ n) : Xs xs m := ⟨Nat.le_trans l h.len, h.ok⟩
theorem Xs.tail {xs : List Int} {n : Nat} (h : Xs xs (n + 1)) : cutD (D.ints xs) (some 1) none = D.ints xs.tail ∧ Xs xs.tail n := by
 have hl := h.len
 refine ⟨?_, by rw [List.length_tail]; omega, fun z hz => h.ok z (List.mem_of_mem_tail hz)⟩
 rw [cutD_from (by decide) (by unfold D.ints; rw [List.length_map]; omega)]
 show (D.ints xs).drop 1 = _
 unfold D.ints
 rw [← List.map_drop, List.drop_one]
theorem Xs.szI {x : Int} (h : 0 ≤ x ∧ x < 1000000000) : Sz 30 x := .of_lt 1000000000 (by omega) (by decide)
end
section
open TL NumText
def dotX (z : Int) : P4 := (z % 9 - 4, z / 9 % 9 - 4, z / 81 % 3, 1 + z / 243 % 3)
theorem dotX_ok (z : Int) : DotOk (dotX z) := by
 unfold dotX
 refine ⟨?_, ?_, ?_, ?_⟩
 ·show (z % 9 - 4).natAbs < _; omega
 ·show (z / 9 % 9 - 4).natAbs < _; omega
 ·show 0 ≤ z / 81 % 3 ∧ z / 81 % 3 ≤ 2; omega
 ·show 1 ≤ 1 + z / 243 % 3 ∧ 1 + z / 243 % 3 < _; omega
def frontP (p : P4) : P4 := (4, p.2)
theorem lens_pick {z : Int} : ∃ n : Nat, atR [.int 3, .int 4, .int 6, .int 12, .int 13, .int 29, .int 30, .int 30] (z % 8) = .ok (.im (.int (n : Int))) ∧ 3 ≤ n ∧ n ≤ 30 := by
 obtain ⟨w, hw, w1⟩ := pickI (l := [.int 3, .int 4, .int 6, .int 12, .int 13, .int 29, .int 30, .int 30]) (n := 8) (k := z) rfl (by decide) (fun d => ∃ w : Nat, d = .int (w : Int) ∧ 3 ≤ w ∧ w ≤ 30) (fun d hd => by
  simp only [List.mem_cons, List.not_mem_nil, or_false] at hd
  rcases hd with rfl | rfl | rfl | rfl | rfl | rfl | rfl | rfl
  ·exact ⟨3, rfl, by decide, by decide⟩
  ·exact ⟨4, rfl, by decide, by decide⟩
  ·exact ⟨6, rfl, by decide, by decide⟩
  ·exact ⟨12, rfl, by decide, by decide⟩
  ·exact ⟨13, rfl, by decide, by decide⟩
  ·exact ⟨29, rfl, by decide, by decide⟩
  ·exact ⟨30, rfl, by decide, by decide⟩
  ·exact ⟨30, rfl, by decide, by decide⟩)
 obtain ⟨w, rfl, w2, w3⟩ := w1
 exact ⟨w, hw, w2, w3⟩
theorem raw_lc {xs : List Int} {n : Nat} (h : Xs xs n) (s0 s2 s4 : Sl) :
  lcN (lc1 (gName 3) tTrue (eTup (aCons (eSub (eMod (eIx (eVar 1) (eVar 3)) (eC (.int 9))) (eC (.int 4))) (aCons (eSub (eMod (eDiv (eIx (eVar 1) (eVar 3)) (eC (.int 9))) (eC (.int 9))) (eC (.int 4))) (aCons (eMod (eDiv (eIx (eVar 1) (eVar 3)) (eC (.int 81))) (eC (.int 3))) (aCons (eAdd (eC (.int 1)) (eMod (eDiv (eIx (eVar 1) (eVar 3)) (eC (.int 243))) (eC (.int 3)))) aNil))))) [s0, .im (.lst (D.ints xs)), s2, .no, s4]) ((List.range n).map fun (i : Nat) => D.int (0 + (i : Int))) = .ok ((List.range n).map fun (i : Nat) => q4 (dotX (cellZ xs (i : Int)))) := by
 refine lcN_all (enc := fun (i : Nat) => D.int (0 + (i : Int))) fun i hi => ?_
 have hl := h.len
 have hi' := List.mem_range.mp hi
 have a : atR (D.ints xs) (i : Int) = .ok (.im (.int (cellZ xs (i : Int)))) := atR_ints (by omega) (by omega)
 have sx : Sz 30 (cellZ xs (i : Int)) := by
  obtain ⟨z, e, h0⟩ := h.at hi'
  rw [a] at e
  injection e with e
  injection e with e
  injection e with e
  injection e with e
  rw [e]
  exact Xs.szI h0
 unfold dotX q4
 rw [show (0 : Int) + (i : Int) = (i : Int) by omega]
 dsimp only
 generalize D.ints xs = XS at *
 generalize cellZ xs (i : Int) = z at *
 walk_at "evs"
theorem law_dots_ok (c : Int) : ∃ p rest, m_law_dots [.int c] = .ok (.fr (D.quads (frontP p :: rest))) ∧ (∀ q ∈ frontP p :: rest, DotOk q) ∧ 3 ≤ (frontP p :: rest).length ∧ (frontP p :: rest).length ≤ 30 := by
 obtain ⟨xs, h1, h2, h3⟩ := stream_ok (c := c) (many := 31) (by decide)
 have hX : Xs xs 31 := ⟨by rw [h2]; decide, h3⟩
 obtain ⟨z, hz, _⟩ := hX.at (k := 30) (by decide)
 have hz' : atR (D.ints xs) 30 = .ok (.im (.int z)) := hz
 obtain ⟨n, hn, n3, n30⟩ := lens_pick (z := z)
 have lc := raw_lc (hX.mono (m := n) (by omega))
 have hs : sizeLine = 16777216 := sizeLine_eq
 obtain ⟨m, rfl⟩ : ∃ m, n = m + 1 := ⟨n - 1, by omega⟩
 have er : ((List.range (m + 1)).map fun (i : Nat) => q4 (dotX (cellZ xs (i : Int)))) = q4 (dotX (cellZ xs ((0 : Nat) : Int))) :: D.quads ((List.range m).map fun (i : Nat) => dotX (cellZ xs ((i + 1 : Nat) : Int))) := by
  rw [List.range_succ_eq_map, List.map_cons, List.map_map]
  unfold D.quads
  rw [List.map_map]
  rfl
 rw [er] at lc
 refine ⟨dotX (cellZ xs ((0 : Nat) : Int)), (List.range m).map fun (i : Nat) => dotX (cellZ xs ((i + 1 : Nat) : Int)), ?_, ?_, ?_, ?_⟩
 ·have ql : (D.quads ((List.range m).map fun (i : Nat) => dotX (cellZ xs ((i + 1 : Nat) : Int)))).length = m := by rw [quads_len, List.length_map, List.length_range]
  have e1 : D.quads (frontP (dotX (cellZ xs ((0 : Nat) : Int))) :: ((List.range m).map fun (i : Nat) => dotX (cellZ xs ((i + 1 : Nat) : Int)))) = .tup [.int 4, .int (dotX (cellZ xs ((0 : Nat) : Int))).2.1, .int (dotX (cellZ xs ((0 : Nat) : Int))).2.2.1, .int (dotX (cellZ xs ((0 : Nat) : Int))).2.2.2] :: D.quads ((List.range m).map fun (i : Nat) => dotX (cellZ xs ((i + 1 : Nat) : Int))) := rfl
  rw [e1]
  have q0 : q4 (dotX (cellZ xs ((0 : Nat) : Int))) = .tup [.int (dotX (cellZ xs ((0 : Nat) : Int))).1, .int (dotX (cellZ xs ((0 : Nat) : Int))).2.1, .int (dotX (cellZ xs ((0 : Nat) : Int))).2.2.1, .int (dotX (cellZ xs ((0 : Nat) : Int))).2.2.2] := rfl
  rw [q0] at lc
  clear e1 q0 er
  generalize dotX (cellZ xs ((0 : Nat) : Int)) = P at *
  generalize D.quads ((List.range m).map fun (i : Nat) => dotX (cellZ xs ((i + 1 : Nat) : Int))) = QR at *
  unfold m_law_dots
  generalize m_law_stream = ms at h1 ⊢
  have cut : ∀ d : D, cutD (d :: QR) (some 1) none = QR := fun d => by
   rw [cutD_from (by decide) (by rw [List.length_cons]; omega)]
   rfl
  have a0 : ∀ d : D, atR (d :: QR) 0 = .ok (.im d) := fun d => ev_at0
  generalize D.ints xs = XS at *
  have rg : rngD 0 ((m + 1 : Nat) : Int).toNat = (List.range (m + 1)).map fun (i : Nat) => D.int (0 + (i : Int)) := by rw [Int.toNat_natCast]; rfl
  walk_at "ev"
  rw [h1]
  walk_at "ev"
  rw [hz']
  walk_at "ev"
  rw [hn]
  walk_at "ev"
  rw [rg]
  walk_at "ev"
  rw [lc]
  walk_at "ev"
  rw [cut]
  walk_at "ev"
 ·intro q hq
  rcases List.mem_cons.mp hq with e | e
  ·rw [e]
   have k := dotX_ok (cellZ xs ((0 : Nat) : Int))
   exact ⟨by show (4 : Int).natAbs < _; decide, k.y, k.c, k.w⟩
  ·obtain ⟨i, _, rfl⟩ := List.mem_map.1 e
   exact dotX_ok _
 ·rw [List.length_cons, List.length_map, List.length_range]; omega
 ·rw [List.length_cons, List.length_map, List.length_range]; omega
end
section
open TL NumText
def Ref (s : Sh) (x : D) (way : Int) : Prop := ∃ n : Str, m_Sheet_ask [shU s] [x] = .er n [shU s] ∧ ((way = 0 ∧ n = "NoAsk") ∨ (way = 1 ∧ n = "NoText") ∨ (way = 2 ∧ n = "NoMap") ∨ (way = 3 ∧ n = "NoSuch") ∨ (way = 4 ∧ n = "NoDots") ∨ (way = 5 ∧ n = "TooMany") ∨ (way = 6 ∧ n = "TooFew"))
def cutT (k : Int) : D := .str (S (joinL [32] [L_cut, numZ k]))
theorem ref_cut {s : Sh} {k : Int} (hs : GoodSh s) (hk : k.natAbs < 100) (h : k < 0 ∨ (s.now.length : Int) ≤ k) : Ref s (cutT k) 3 := by
 have a := ask_cut hs hk
 rw [if_pos h] at a
 exact ⟨"NoSuch", a, .inr (.inr (.inr (.inl ⟨rfl, rfl⟩)))⟩
def mapT (m : M6) : D := .str (S (joinL [32] (L_map :: mRow m)))
theorem ref_flat {s : Sh} {m : M6} (hs : GoodSh s) (hm : NearM m) (h : m.a * m.d = m.b * m.c) : Ref s (mapT m) 2 := by
 have a := ask_map' hs hm
 rw [if_pos h] at a
 exact ⟨"NoMap", a, .inr (.inr (.inl ⟨rfl, rfl⟩))⟩
theorem ref_far {s : Sh} {m : M6} (hs : GoodSh s) (hm : NearM m) (h : m.a * m.d ≠ m.b * m.c) (hf : (s.now.map (sentQ m)).all nearQ = false) : Ref s (mapT m) 4 := by
 have a := ask_map' hs hm
 rw [if_neg h, hf] at a
 exact ⟨"NoDots", a.trans (if_neg (by decide)), .inr (.inr (.inr (.inr (.inl ⟨rfl, rfl⟩))))⟩
theorem ref_put {s : Sh} {p : P4} (hs : GoodSh s) (hp : DotOk p) (h : s.now.length = 30) : Ref s (.str (S (joinL [32] [L_put, showDot p]))) 4 := by
 have a := ask_put hs hp
 rw [if_pos h] at a
 exact ⟨"NoDots", a, .inr (.inr (.inr (.inr (.inl ⟨rfl, rfl⟩))))⟩
theorem rest_told {s : Sh} {row v : List Nat} {ds : List D} {ks : List (List Nat)} {n : Str} (hi : inTR (.ok (.str (S v))) (.ok doV) = .ok false) (hl : inTR (.ok (.str (S v))) (.ok (.tup [.str "lines", .str "fair", .str "quarter"])) = .ok false) (hd : (S v == ("dots" : Str)) = false) (h : m_told_of_places [rowD s.now, .str (S v), .lst ds] = .er n) :
  retL 1 (ask_rest ds s row v ks) = .er n [shU s] := by
 unfold ask_rest askD m_Sheet_ask_r3 m_Sheet_ask_r2 m_Sheet_ask_r1
 unfold shU
 rw [show shD s = [rowD s.now, .lst (s.ear.map rowD)] from rfl]
 generalize m_told_of_places = md at h ⊢
 generalize m_Sheet_ask_i1 = i1
 generalize rowD s.now = N at *
 generalize s.ear.map rowD = EA at *
 walk_at "ev"
 rw [hi]
 walk_at "ev"
 rw [hd]
 walk_at "ev"
 rw [hl]
 walk_at "ev"
 rw [h]
 walk_at "ev"
theorem eqD_row0 (r : List P4) : eqD (rowD r) (.lst []) = .ok (decide (r = [])) := by
 unfold rowD
 rw [eqD_sim (show D.sim (.lst (D.quads r)) = true from (sims_map q4_sim r : D.sims (D.quads r) = true)) rfl (by
  have := deps_map (f := q4) (n := 1) (fun q => by show 1 ≤ 1; decide) r
  show D.deps _ + 1 ≤ 64
  unfold D.quads
  omega) (by decide)]
 congr 1
 apply decide_eq_decide.mpr
 cases r <;> simp [D.quads]
theorem deepest_many {r : List P4} (h : 12 < r.length) : m_deepest [rowD r] = .er "TooMany" := by
 have e := eqD_row0 r
 rw [decide_eq_false (by intro z; rw [z] at h; exact absurd h (by decide))] at e
 replace e : eqRV (.ok (.im (rowD r))) (.ok (.fr [])) = .ok false := e
 have ql := quads_len r
 unfold m_deepest m_deepest_r1
 have lenE : lenR (.ok (.im (rowD r))) = .ok (.im (.int (r.length : Int))) := by
  show R.ok (RV.im (D.int ((D.quads r).length : Int))) = _
  rw [ql]
 generalize rowD r = N at *
 walk_at "ev"
 rw [e]
 walk_at "ev"
 rw [lenE]
 walk_at "ev"
 (try rw [if_pos (by omega)])
 (try rw [decide_eq_true (by omega)])
 walk_at "ev"
theorem two_few {L : List D} (h : L.length < 4) : m_two_groups [.lst L] = .er "TooFew" := by
 unfold m_two_groups
 walk_at "ev"
 (try rw [if_pos (by omega)])
 (try rw [decide_eq_true (by omega)])
 walk_at "ev"
theorem three_few {L : List D} (h : L.length < 7) : m_three_groups [.lst L] = .er "TooFew" := by
 unfold m_three_groups
 walk_at "ev"
 (try rw [if_pos (by omega)])
 (try rw [decide_eq_true (by omega)])
 walk_at "ev"
theorem told_deepest {r : List P4} {ds : List D} (h : 12 < r.length) : m_told_of_places [rowD r, .str (S L_deepest), .lst ds] = .er "TooMany" := by
 have e := deepest_many h
 have w1 : (S L_deepest == ("depth" : Str)) = false := by rfl
 have w2 : (S L_deepest == ("middle" : Str)) = false := by rfl
 have w3 : (S L_deepest == ("deepest" : Str)) = true := by rfl
 unfold m_told_of_places m_told_of_places_r2
 generalize m_deepest = md at e ⊢
 generalize m_told_of_places_r1 = r1
 generalize rowD r = N at *
 generalize S L_deepest = SL at *
 walk_at "ev"
 rw [w1]
 walk_at "ev"
 rw [w2]
 walk_at "ev"
 rw [w3]
 walk_at "ev"
 rw [e]
 walk_at "ev"
def prD (p : P4) : D := .tup [.int p.1, .int p.2.1]
theorem pairs_lc (r : List P4) (s0 s1 s2 s3 s5 : Sl) : lcN (lc1 (gName 4) tTrue (eSl (eVar 4) oNone (oSome (eC (.int 2)))) [s0, s1, s2, s3, .no, s5]) (D.quads r) = .ok (r.map prD) := by
 refine lcN_all (enc := q4) fun p hp => ?_
 rfl
theorem told_two {r : List P4} {ds : List D} (h : r.length < 4) : m_told_of_places [rowD r, .str (S L_two), .lst ds] = .er "TooFew" := by
 have e := two_few (L := r.map prD) (by rw [List.length_map]; exact h)
 have lc := pairs_lc r
 have hz : sizeLine = 16777216 := sizeLine_eq
 have ql := quads_len r
 have w1 : (S L_two == ("depth" : Str)) = false := by rfl
 have w2 : (S L_two == ("middle" : Str)) = false := by rfl
 have w3 : (S L_two == ("deepest" : Str)) = false := by rfl
 have w4 : (S L_two == ("two" : Str)) = true := by rfl
 unfold m_told_of_places m_told_of_places_r2 m_told_of_places_r1 m_told_of_places_i1 rowD
 generalize m_deepest = md
 generalize m_two_groups = mt at e ⊢
 generalize m_show_place = msp
 generalize m_told_of_places_i2 = i2
 generalize r.map prD = PR at *
 generalize D.quads r = N at *
 generalize S L_two = SL at *
 walk_at "ev"
 rw [w1]
 walk_at "ev"
 rw [w2]
 walk_at "ev"
 rw [w3]
 walk_at "ev"
 rw [lc]
 walk_at "ev"
 rw [w4]
 walk_at "ev"
 rw [eCallE_er (n := "TooFew") (by
  refine rCons_some ?_
  refine rOf_some ?_
  walk_at "ev"
  rw [e]
  rfl)]
 rfl
theorem told_three {r : List P4} {ds : List D} (h : r.length < 7) : m_told_of_places [rowD r, .str (S L_three), .lst ds] = .er "TooFew" := by
 have e := three_few (L := r.map prD) (by rw [List.length_map]; exact h)
 have lc := pairs_lc r
 have hz : sizeLine = 16777216 := sizeLine_eq
 have ql := quads_len r
 have w1 : (S L_three == ("depth" : Str)) = false := by rfl
 have w2 : (S L_three == ("middle" : Str)) = false := by rfl
 have w3 : (S L_three == ("deepest" : Str)) = false := by rfl
 have w4 : (S L_three == ("two" : Str)) = false := by rfl
 have w5 : (S L_three == ("three" : Str)) = true := by rfl
 unfold m_told_of_places m_told_of_places_r2 m_told_of_places_r1 m_told_of_places_i2 rowD
 generalize m_deepest = md
 generalize m_three_groups = mt at e ⊢
 generalize m_show_place = msp
 generalize m_told_of_places_i1 = i2
 generalize r.map prD = PR at *
 generalize D.quads r = N at *
 generalize S L_three = SL at *
 walk_at "ev"
 rw [w1]
 walk_at "ev"
 rw [w2]
 walk_at "ev"
 rw [w3]
 walk_at "ev"
 rw [lc]
 walk_at "ev"
 rw [w4]
 walk_at "ev"
 rw [w5]
 walk_at "ev"
 rw [eCallE_er (n := "TooFew") (by
  refine rCons_some ?_
  refine rOf_some ?_
  walk_at "ev"
  rw [e]
  rfl)]
 rfl
theorem ref_word {s : Sh} {v : List Nat} {n : Str} {way : Int} (hl : v.length ≤ 90000) (hsp : spl [32] 0 [] v = [v]) (hk : m_kinds_behind [.str (S v)] = .ok (.fr (strsD []))) (hi : inTR (.ok (.str (S v))) (.ok doV) = .ok false) (h2 : inTR (.ok (.str (S v))) (.ok (.tup [.str "lines", .str "fair", .str "quarter"])) = .ok false) (hd : (S v == ("dots" : Str)) = false) (h : m_told_of_places [rowD s.now, .str (S v), .lst []] = .er n)
  (hw : (way = 5 ∧ n = "TooMany") ∨ (way = 6 ∧ n = "TooFew")) : Ref s (.str (S v)) way := by
 refine ⟨n, ?_, ?_⟩
 ·rw [ask_all (s := s) (T := []) (row := v) (v := v) hl hsp hk (by simp) (fun t ht => by cases ht)]
  show retL 1 (ask_rest [] s _ v _) = _
  exact rest_told hi h2 hd h
 ·rcases hw with w | w
  ·exact .inr (.inr (.inr (.inr (.inr (.inl w)))))
  ·exact .inr (.inr (.inr (.inr (.inr (.inr w)))))
theorem ref_deepest {s : Sh} (h : 12 < s.now.length) : Ref s (.str "deepest") 5 := by
 rw [show ("deepest" : Str) = S L_deepest by apply ext_tl; rfl]
 exact ref_word (by decide) (by decide) k_deepest wi_deepest wl_deepest wd_deepest_dots (told_deepest h) (.inl ⟨rfl, rfl⟩)
theorem ref_two {s : Sh} (h : s.now.length < 4) : Ref s (.str "two") 6 := by
 rw [show ("two" : Str) = S L_two by apply ext_tl; rfl]
 exact ref_word (by decide) (by decide) k_two wi_two wl_two wd_two_dots (told_two h) (.inr ⟨rfl, rfl⟩)
theorem ref_three {s : Sh} (h : s.now.length < 7) : Ref s (.str "three") 6 := by
 rw [show ("three" : Str) = S L_three by apply ext_tl; rfl]
 exact ref_word (by decide) (by decide) k_three wi_three wl_three wd_three_dots (told_three h) (.inr ⟨rfl, rfl⟩)
end
section
open TL NumText
def rwD (x : D) (way : Int) : D := .tup [x, .int way]
def kindsD (way : Int) : List D := (List.range 8).map fun i : Nat => D.bl (decide ((i : Int) = way))
theorem no_asks_ok : m_law_no_asks [] = .ok (.fr naL) := by
 have hz : sizeLine = 16777216 := sizeLine_eq
 unfold m_law_no_asks naL
 walk_at "ev"
theorem no_texts_ok : m_law_no_texts [] = .ok (.fr ntL) := by
 have hz : sizeLine = 16777216 := sizeLine_eq
 unfold m_law_no_texts ntL
 walk_at "ev"
theorem m1_near : NearM ⟨1, 2, 2, 4, 0, 0⟩ := ⟨by decide, by decide, by decide, by decide, by decide, by decide⟩
theorem m2_near : NearM ⟨0, 0, 0, 0, 9, 9⟩ := ⟨by decide, by decide, by decide, by decide, by decide, by decide⟩
theorem m3_near : NearM ⟨999999999999, 0, 0, 999999999999, 0, 0⟩ := ⟨by decide, by decide, by decide, by decide, by decide, by decide⟩
theorem lit_m1 : (D.str "map 1 2 2 4 0 0") = mapT ⟨1, 2, 2, 4, 0, 0⟩ := by
 unfold mapT
 congr 1
theorem lit_m2 : (D.str "map 0 0 0 0 9 9") = mapT ⟨0, 0, 0, 0, 9, 9⟩ := by
 unfold mapT
 congr 1
theorem lit_m3 : (D.str "map 999999999999 0 0 999999999999 0 0") = mapT ⟨999999999999, 0, 0, 999999999999, 0, 0⟩ := by
 unfold mapT
 congr 1
theorem lit_c1 : (D.str "cut -1") = cutT (-1) := by
 unfold cutT
 congr 1
theorem lit_c99 : (D.str "cut 99") = cutT 99 := by
 unfold cutT
 congr 1
theorem lit_p0 : (D.str "put a0:0") = .str (S (joinL [32] [L_put, showDot (0, 0, 0, 1)])) := by
 congr 1
def Rws (s : Sh) (l : List D) : Prop := ∀ d ∈ l, ∃ x way, d = rwD x way ∧ Ref s x way
theorem Rws.app {s : Sh} {a b : List D} (h : Rws s a) (k : Rws s b) : Rws s (a ++ b) := fun d m => by
 rcases List.mem_append.mp m with e | e
 ·exact h d e
 ·exact k d e
theorem Rws.one {s : Sh} {x : D} {way : Int} (h : Ref s x way) : Rws s [rwD x way] := fun d m => ⟨x, way, List.mem_singleton.mp m, h⟩
theorem Rws.cons {s : Sh} {x : D} {way : Int} {l : List D} (h : Ref s x way) (k : Rws s l) : Rws s (rwD x way :: l) := (Rws.one h).app k
theorem rws_no (s : Sh) : Rws s (naL.map fun d => rwD d 0) := fun d m => by
 obtain ⟨x, hx, rfl⟩ := List.mem_map.1 m
 exact ⟨x, 0, rfl, "NoAsk", naL_all s x hx, .inl ⟨rfl, rfl⟩⟩
theorem rws_nt (s : Sh) : Rws s (ntL.map fun d => rwD d 1) := fun d m => by
 obtain ⟨x, hx, rfl⟩ := List.mem_map.1 m
 exact ⟨x, 1, rfl, "NoText", ntL_all s x hx, .inr (.inl ⟨rfl, rfl⟩)⟩
end
section
open TL NumText
theorem far_ok {p : P4} {rest : List P4} : ((frontP p :: rest).map (sentQ ⟨999999999999, 0, 0, 999999999999, 0, 0⟩)).all nearQ = false := by
 rw [List.map_cons, List.all_cons]
 have e : nearQ (sentQ ⟨999999999999, 0, 0, 999999999999, 0, 0⟩ (frontP p)) = false := eq_false_of_ne_true fun h => by
  unfold nearQ at h
  rw [Bool.and_eq_true] at h
  have k := nearZ_iff.1 h.1
  unfold sentQ frontP at k
  dsimp only at k
  omega
 rw [e]
 rfl
theorem deeds_end {n : Int} {L0 : List D} (hl : L0.length ≤ 100) : retO (m_law_deeds_r3 [.im (.int n), .ow L0]) = .ok (.fr (L0 ++ ((if 12 < n then [rwD (.str "deepest") 5] else []) ++ ((if n < 7 then [rwD (.str "three") 6] else []) ++ (if n < 4 then [rwD (.str "two") 6] else []))))) := by
 have hz : sizeLine = 16777216 := sizeLine_eq
 unfold m_law_deeds_r3 m_law_deeds_r2 m_law_deeds_r1 rwD
 by_cases c1 : 12 < n
 ·rw [if_pos c1, if_neg (by omega), if_neg (by omega)]
  walk_at "ev"
  (try rw [if_pos c1])
  (try rw [decide_eq_true c1])
  walk_at "ev"
  (try rw [if_neg (show ¬ n < 7 by omega)])
  (try rw [decide_eq_false (show ¬ n < 7 by omega)])
  walk_at "ev"
  (try rw [if_neg (show ¬ n < 4 by omega)])
  (try rw [decide_eq_false (show ¬ n < 4 by omega)])
  walk_at "ev"
 ·rw [if_neg c1]
  by_cases c2 : n < 4
  ·rw [if_pos c2, if_pos (by omega)]
   walk_at "ev"
   (try rw [if_neg c1])
   (try rw [decide_eq_false c1])
   walk_at "ev"
   (try rw [if_pos (show n < 7 by omega)])
   (try rw [decide_eq_true (show n < 7 by omega)])
   walk_at "ev"
   (try rw [if_pos c2])
   (try rw [decide_eq_true c2])
   walk_at "ev"
   (try simp)
  ·rw [if_neg c2]
   by_cases c3 : n < 7
   ·rw [if_pos c3]
    walk_at "ev"
    (try rw [if_neg c1])
    (try rw [decide_eq_false c1])
    walk_at "ev"
    (try rw [if_pos c3])
    (try rw [decide_eq_true c3])
    walk_at "ev"
    (try rw [if_neg c2])
    (try rw [decide_eq_false c2])
    walk_at "ev"
   ·rw [if_neg c3]
    walk_at "ev"
    (try rw [if_neg c1])
    (try rw [decide_eq_false c1])
    walk_at "ev"
    (try rw [if_neg c3])
    (try rw [decide_eq_false c3])
    walk_at "ev"
    (try rw [if_neg c2])
    (try rw [decide_eq_false c2])
    walk_at "ev"
end
section
open TL NumText
theorem law_deeds_ok {s : Sh} {p : P4} {rest : List P4} (hs : GoodSh s) (hn : s.now = frontP p :: rest) : ∃ L, m_law_deeds [.int (s.now.length : Int)] = .ok (.fr L) ∧ Rws s L ∧ L.length ≤ 20 := by
 have hz : sizeLine = 16777216 := sizeLine_eq
 have hl := hs.now.len
 obtain ⟨n, en⟩ : ∃ n : Int, n = (s.now.length : Int) := ⟨_, rfl⟩
 have r1 : Ref s (.str "cut -1") 3 := by rw [lit_c1]; exact ref_cut hs (by decide) (.inl (by decide))
 have r2 : Ref s (cutT n) 3 := ref_cut hs (by omega) (.inr (by omega))
 have r3 : Ref s (.str "cut 99") 3 := by rw [lit_c99]; exact ref_cut hs (by decide) (.inr (by omega))
 have r4 : Ref s (.str "map 1 2 2 4 0 0") 2 := by rw [lit_m1]; exact ref_flat hs m1_near (by decide)
 have r5 : Ref s (.str "map 0 0 0 0 9 9") 2 := by rw [lit_m2]; exact ref_flat hs m2_near (by decide)
 have r6 : Ref s (.str "map 999999999999 0 0 999999999999 0 0") 4 := by rw [lit_m3]; exact ref_far hs m3_near (by decide) (by rw [hn]; exact far_ok)
 have r7 : n = 30 → Ref s (.str "put a0:0") 4 := fun h => by rw [lit_p0]; exact ref_put hs ⟨by decide, by decide, by decide, by decide⟩ (by omega)
 have base : Rws s [rwD (.str "cut -1") 3, rwD (cutT n) 3, rwD (.str "cut 99") 3, rwD (.str "map 1 2 2 4 0 0") 2, rwD (.str "map 0 0 0 0 9 9") 2, rwD (.str "map 999999999999 0 0 999999999999 0 0") 4] := .cons r1 (.cons r2 (.cons r3 (.cons r4 (.cons r5 (.one r6)))))
 have endR : Rws s ((if 12 < n then [rwD (.str "deepest") 5] else []) ++ ((if n < 7 then [rwD (.str "three") 6] else []) ++ (if n < 4 then [rwD (.str "two") 6] else []))) := by
  have nil : Rws s [] := fun d m => by cases m
  refine Rws.app ?_ (Rws.app ?_ ?_)
  ·by_cases c : 12 < n
   ·rw [if_pos c]; exact .one (ref_deepest (by omega))
   ·rw [if_neg c]; exact nil
  ·by_cases c : n < 7
   ·rw [if_pos c]; exact .one (ref_three (by omega))
   ·rw [if_neg c]; exact nil
  ·by_cases c : n < 4
   ·rw [if_pos c]; exact .one (ref_two (by omega))
   ·rw [if_neg c]; exact nil
 have endL : ((if 12 < n then [rwD (.str "deepest") 5] else []) ++ ((if n < 7 then [rwD (.str "three") 6] else []) ++ (if n < 4 then [rwD (.str "two") 6] else []))).length ≤ 3 := by
  rw [List.length_append, List.length_append]
  have a : (if 12 < n then [rwD (.str "deepest") 5] else []).length ≤ 1 := by split <;> decide
  have b : (if n < 7 then [rwD (.str "three") 6] else []).length ≤ 1 := by split <;> decide
  have c : (if n < 4 then [rwD (.str "two") 6] else []).length ≤ 1 := by split <;> decide
  omega
 have de := fun L0 hl => deeds_end (n := n) (L0 := L0) hl
 have sk : strcR (.ok (.int n)) = .ok (.im (.str (S (numZ n)))) := by rw [en]; exact len_str (by omega)
 have lk := numZ_12 (z := n) (m := 2) (by decide) (by omega)
 have ad : addV (.ok (.im (.str "cut "))) (.ok (.im (.str (S (numZ n))))) = .ok (.im (cutT n)) := by
  rw [show ("cut " : Str) = S (L_cut ++ [32]) by apply ext_tl; rfl, addS (by simp only [List.length_append, List.length_cons, List.length_nil]; omega)]
  show R.ok (RV.im (D.str (S ((L_cut ++ [32]) ++ numZ n)))) = _
  rw [show (L_cut ++ [32]) ++ numZ n = joinL [32] [L_cut, numZ n] by show _ = L_cut ++ ([32] ++ numZ n); simp]
  rfl
 rw [← en]
 by_cases c : n = 30
 ·refine ⟨([rwD (.str "cut -1") 3, rwD (cutT n) 3, rwD (.str "cut 99") 3, rwD (.str "map 1 2 2 4 0 0") 2, rwD (.str "map 0 0 0 0 9 9") 2, rwD (.str "map 999999999999 0 0 999999999999 0 0") 4] ++ [rwD (.str "put a0:0") 4]) ++ _, ?_, (base.app (.one (r7 c))).app endR, by rw [List.length_append]; simp only [List.length_append, List.length_cons, List.length_nil] at endL ⊢; omega⟩
  rw [← de _ (by simp)]
  unfold m_law_deeds
  generalize m_law_deeds_r3 = r3
  unfold rwD
  generalize cutT n = CT at *
  walk_at "ev"
  rw [sk]
  walk_at "ev"
  rw [ad]
  walk_at "ev"
  (try rw [decide_eq_true c])
  (try rw [if_pos c])
  (try walk_at "ev")
 ·refine ⟨[rwD (.str "cut -1") 3, rwD (cutT n) 3, rwD (.str "cut 99") 3, rwD (.str "map 1 2 2 4 0 0") 2, rwD (.str "map 0 0 0 0 9 9") 2, rwD (.str "map 999999999999 0 0 999999999999 0 0") 4] ++ _, ?_, base.app endR, by rw [List.length_append]; simp only [List.length_append, List.length_cons, List.length_nil] at endL ⊢; omega⟩
  rw [← de _ (by simp)]
  unfold m_law_deeds
  generalize m_law_deeds_r3 = r3
  unfold rwD
  generalize cutT n = CT at *
  walk_at "ev"
  rw [sk]
  walk_at "ev"
  rw [ad]
  walk_at "ev"
  (try rw [decide_eq_false c])
  (try rw [if_neg c])
  (try walk_at "ev")
abbrev caughtL : List Str := ["NoAsk", "NoDots", "NoLine", "NoMap", "NoPlace", "NoSuch", "NoText", "TooFew", "TooMany"]
theorem kinds_lc (s0 s1 s3 s4 : Sl) (way : Int) : lcN (lc1 (gName 5) tTrue (eCmp (cEq (eVar 5) (eVar 2))) [s0, s1, .im (.int way), s3, s4, .no]) (rngD 0 8) = .ok (kindsD way) := by
 rw [show rngD 0 8 = (List.range 8).map fun (i : Nat) => D.int (0 + (i : Int)) from rfl]
 rw [lcN_all (enc := fun (i : Nat) => D.int (0 + (i : Int))) (v := fun (i : Nat) => D.bl (decide (0 + (i : Int) = way))) fun i _ => rfl]
 unfold kindsD
 congr 1
theorem kinds_go (s0 s1 s3 s4 : Sl) (way : Int) : lcGo (R.ok (rngD 0 8)) true (lc1 (gName 5) tTrue (eCmp (cEq (eVar 5) (eVar 2))) [s0, s1, .im (.int way), s3, s4, .no]) = .ok (.fr (kindsD way)) := by
 unfold lcGo
 dsimp only
 rw [if_pos ⟨rfl, by show 8 ≤ sizeLine; rw [sizeLine_eq]; decide⟩, kinds_lc]
 (try rfl)
theorem refused_step {SD : List D} {x : D} {way : Int} {n : Str} {L : List (Str × Bool)} (ha : m_Sheet_ask [(shK, SD)] [x] = .er n [(shK, SD)]) (hx : isxR "ValueError" [("NoAsk", true), ("NoDots", true), ("NoLine", true), ("NoMap", true), ("NoPlace", true), ("NoSuch", true), ("NoText", true), ("TooFew", true), ("TooMany", true)] (.ok (.exc n)) = .ok (.im (.bl true))) (hk : m_law_kinds [.exc n] = .ok (.fr (kindsD way))) (hL : caughtL.contains n = true) (ee : eqD (.lst (kindsD way)) (.lst (kindsD way)) = .ok true) :
  m_law_refused [(shK, SD)] [x, .int way] = .ok (.bl true) [(shK, SD)] := by
 have lc := fun a b c d => kinds_go a b c d way
 unfold m_law_refused m_law_refused_r2 m_law_refused_r1
 generalize m_Sheet_ask = ma at ha ⊢
 generalize m_law_kinds = mk at hk ⊢
 generalize kindsD way = KD at *
 walk_at "ev"
 rw [ha]
 walk_at "ev"
 unfold tryO
 dsimp only
 rw [if_pos hL]
 walk_at "ev"
 rw [hx]
 walk_at "ev"
 rw [if_neg (show ¬ (D.exc n).isNon = true from fun h => by cases h)]
 walk_at "ev"
 rw [hk]
 walk_at "ev"
 rw [lc]
 walk_at "ev"
 rw [ee]
 walk_at "ev"
theorem law_refused_ok {s : Sh} {x : D} {way : Int} (h : Ref s x way) : m_law_refused [shU s] [x, .int way] = .ok (.bl true) [shU s] := by
 obtain ⟨n, ha, hw⟩ := h
 unfold shU at *
 rcases hw with ⟨rfl, rfl⟩ | ⟨rfl, rfl⟩ | ⟨rfl, rfl⟩ | ⟨rfl, rfl⟩ | ⟨rfl, rfl⟩ | ⟨rfl, rfl⟩ | ⟨rfl, rfl⟩
 ·exact refused_step (L := []) ha rfl rfl rfl rfl
 ·exact refused_step (L := []) ha rfl rfl rfl rfl
 ·exact refused_step (L := []) ha rfl rfl rfl rfl
 ·exact refused_step (L := []) ha rfl rfl rfl rfl
 ·exact refused_step (L := []) ha rfl rfl rfl rfl
 ·exact refused_step (L := []) ha rfl rfl rfl rfl
 ·exact refused_step (L := []) ha rfl rfl rfl rfl
end
section
open TL NumText
def e0 : Sh := ⟨[], []⟩
theorem init_ok : m_Sheet_init [] = .ok (shD e0) := by rfl
def putS (r : List P4) (j : Nat) : Sh := ⟨r.take j, lst20 ((List.range j).map fun i => r.take i)⟩
theorem lst20_app {α : Type} (l : List α) (x : α) : lst20 (lst20 l ++ [x]) = lst20 (l ++ [x]) := by
 unfold lst20
 rw [List.length_append, List.length_drop, List.length_singleton, List.length_append, List.length_singleton]
 by_cases h : l.length ≤ 20
 ·rw [show l.length - 20 = 0 by omega, List.drop_zero]
  (try congr 1)
  (try omega)
 ·rw [List.drop_append_of_le_length (by rw [List.length_drop]; omega), List.drop_append_of_le_length (by omega), List.drop_drop]
  (try congr 2)
  (try omega)
theorem putS_zero (r : List P4) : putS r 0 = e0 := rfl
theorem putS_good {r : List P4} (h : GoodR r) (j : Nat) : GoodSh (putS r j) := by
 have g : ∀ i, GoodR (r.take i) := fun i => ⟨by rw [List.length_take]; have := h.len; omega, fun p hp => h.ok p (List.mem_of_mem_take hp)⟩
 refine ⟨g j, lst20_len _, fun x hx => ?_⟩
 obtain ⟨i, _, rfl⟩ := List.mem_map.1 (lst20_mem hx)
 exact g i
theorem putS_next {r : List P4} {j : Nat} (h : j < r.length) : (putS r j).next ((putS r j).now ++ [r[j]]) = putS r (j + 1) := by
 unfold Sh.next putS
 dsimp only
 rw [lst20_app, List.range_succ, List.map_append, List.take_succ_eq_append_getElem h]
 rfl
theorem put_turn {r : List P4} {j : Nat} (hr : GoodR r) (h : j < r.length) : m_Sheet_ask [shU (putS r j)] [.str (S (joinL [32] [L_put, showDot r[j]]))] = .ok (.str (S (numZ ((j + 1 : Nat) : Int)))) [shU (putS r (j + 1))] := by
 have a := ask_put (putS_good hr j) (hr.ok r[j] (List.getElem_mem h))
 have hl := hr.len
 have e : (putS r j).now.length = j := by show (r.take j).length = j; rw [List.length_take]; omega
 rw [if_neg (by omega), putS_next h, List.length_append, e] at a
 exact a
def undS (r : List P4) (k : Nat) : Sh := ⟨r.take (r.length - k), (putS r r.length).ear.take (min r.length 20 - k)⟩
theorem ear_at {r : List P4} {i : Nat} (h : i < min r.length 20) : (putS r r.length).ear[i]? = some (r.take (r.length - min r.length 20 + i)) := by
 have l1 : ((List.range r.length).map fun i => r.take i).length = r.length := by rw [List.length_map, List.length_range]
 show (List.drop _ _)[i]? = _
 rw [List.getElem?_drop, List.getElem?_map, l1, List.getElem?_range (by omega)]
 show some _ = _
 congr 2
 omega
theorem ear_len (r : List P4) : (putS r r.length).ear.length = min r.length 20 := by
 show (List.drop _ _).length = _
 rw [List.length_drop, List.length_map, List.length_range]
 omega
theorem undS_zero (r : List P4) : undS r 0 = putS r r.length := by
 unfold undS
 have := ear_len r
 rw [Nat.sub_zero, Nat.sub_zero, List.take_of_length_le (l := (putS r r.length).ear) (by omega)]
 rfl
theorem undS_good {r : List P4} (h : GoodR r) (k : Nat) : GoodSh (undS r k) := by
 have g := putS_good h r.length
 have e := ear_len r
 exact ⟨⟨by show (r.take _).length ≤ 30; rw [List.length_take]; have := h.len; omega, fun p hp => h.ok p (List.mem_of_mem_take hp)⟩, by show (List.take _ _).length ≤ 20; rw [List.length_take]; omega, fun x hx => g.rows x (List.mem_of_mem_take hx)⟩
theorem undS_back {r : List P4} {k : Nat} (h : k < min r.length 20) : (undS r k).ear ≠ [] ∧ (undS r k).back = undS r (k + 1) := by
 have e := ear_len r
 have ee := ear_at (r := r) (i := min r.length 20 - (k + 1)) (by omega)
 have s : (undS r k).ear = (putS r r.length).ear.take (min r.length 20 - (k + 1)) ++ [r.take (r.length - (k + 1))] := by
  show (putS r r.length).ear.take (min r.length 20 - k) = _
  rw [show min r.length 20 - k = (min r.length 20 - (k + 1)) + 1 by omega, List.take_add_one, ee]
  show _ ++ [_] = _
  congr 3
  omega
 refine ⟨by rw [s]; simp, ?_⟩
 unfold Sh.back
 rw [s]
 unfold undS
 simp
theorem undS_end (r : List P4) : (undS r (min r.length 20)).ear = [] := by
 show List.take _ _ = []
 rw [show min r.length 20 - min r.length 20 = 0 by omega, List.take_zero]
theorem und_turn {r : List P4} {k : Nat} (hr : GoodR r) (h : k < min r.length 20) : m_Sheet_ask [shU (undS r k)] [.str (S L_back)] = .ok (.str (S (numZ ((r.length : Int) - 1 - (k : Int))))) [shU (undS r (k + 1))] := by
 obtain ⟨h1, h2⟩ := undS_back h
 have a := ask_back (undS_good hr k)
 rw [if_neg h1, h2] at a
 rw [a]
 congr 4
 show (((r.take (r.length - (k + 1))).length : Nat) : Int) = _
 rw [List.length_take]
 omega
end
section
open TL NumText
theorem und_step {A B : List D} {QR : List D} {n k : Int} {x : Sl} {l : List Nat} (ha : m_Sheet_ask [(shK, A)] [.str "back"] = .ok (.str (S l)) [(shK, B)]) (hn : (QR.length : Int) = n) (sn : Sz 10 n) (sk : Sz 10 k) (hk : strcR (.ok (.int (n - 1 - k))) = .ok (.im (.str (S l)))) :
  m_law_undone_b1 [.og (.lent 0 shK) A, .im (.lst QR), .im (.int k), x] = .nx [.og (.lent 0 shK) B, .im (.lst QR), .im (.int k), x] := by
 have hz : sizeLine = 16777216 := sizeLine_eq
 unfold m_law_undone_b1
 generalize m_Sheet_ask = ma at ha ⊢
 generalize S l = SL at *
 walk_at "ev"
 rw [ha]
 walk_at "ev"
 rw [hn]
 walk_at "evs"
 rw [beq_self_eq_true]
 walk_at "ev"
theorem und_loop {r : List P4} (hr : GoodR r) (x0 : Sl) : ∃ x, forN (gName 2) m_law_undone_b1 (rngD 0 (min 20 r.length)) [.og (.lent 0 shK) (shD (undS r 0)), .im (rowD r), x0, .no] = .nx [.og (.lent 0 shK) (shD (undS r (min 20 r.length))), .im (rowD r), x, .no] := by
 have hl := hr.len
 have ql := quads_len r
 obtain ⟨E, k1, x, k2⟩ := forN_rng (g := gName 2) (f := m_law_undone_b1)
  (fun i E => ∃ x : Sl, E = [.og (.lent 0 shK) (shD (undS r i)), .im (rowD r), x, .no]) 0 (min 20 r.length) [.og (.lent 0 shK) (shD (undS r 0)), .im (rowD r), x0, .no]
  (fun i E hi ⟨x, e⟩ => by
   subst e
   refine ⟨_, rfl, ?_⟩
   have a := und_turn (k := i) hr (by omega)
   have sk : Sz 10 (0 + (i : Int)) := .of_lt 1000 (by omega) (by decide)
   have sn : Sz 10 (r.length : Int) := .of_lt 1000 (by omega) (by decide)
   have lk : strcR (.ok (.int ((r.length : Int) - 1 - (0 + (i : Int))))) = .ok (.im (.str (S (numZ ((r.length : Int) - 1 - (i : Int)))))) := by
    have z := len_str (n := r.length - 1 - i) (by omega)
    rw [show ((r.length - 1 - i : Nat) : Int) = (r.length : Int) - 1 - (i : Int) by omega] at z
    rw [show (0 : Int) + (i : Int) = (i : Int) by omega]
    exact z
   rw [show S L_back = ("back" : Str) by apply ext_tl; rfl] at a
   exact ⟨_, .inl (und_step (x := .no) a (by rw [ql]) sn sk lk), _, rfl⟩) ⟨x0, rfl⟩
 rw [k2] at k1
 exact ⟨x, k1⟩
theorem take_quads {r : List P4} (h : r.length ≤ 30) : cutD (D.quads r) none (some (max 0 ((r.length : Int) - 20))) = D.quads (r.take (r.length - min 20 r.length)) := by
 have ql := quads_len r
 rw [cutD_to (by omega) (by rw [ql]; omega), take_map']
 congr 2
 omega
theorem words_lc {r : List P4} (h : ∀ p ∈ r, DotOk p) (s0 s1 s2 : Sl) : lcN (lc1 (gName 3) tTrue (eCall m_law_word (aCons (eVar 3) aNil)) [s0, s1, s2, .no]) (D.quads r) = .ok (r.map fun p => D.str (S (showDot p))) := by
 have sh := fun p hp => word_ok (h p hp)
 generalize m_law_word = mw at sh ⊢
 exact lcN_all (enc := q4) (v := fun p => D.str (S (showDot p))) (fun p hp => by
  have := sh p hp
  walk_at "ev"
  rw [this]
  walk_at "ev")
theorem dots_join {r : List P4} (h : ∀ p ∈ r, DotOk p) (hl : r.length ≤ 100) : joinR (.ok (.str (S [32]))) (.ok (r.map fun p => D.str (S (showDot p)))) = .ok (.im (.str (S (joinL [32] (r.map showDot))))) := by
 have jr := joinR_S (ps := r.map showDot) (fun w hw => by
  obtain ⟨p, hp, rfl⟩ := List.mem_map.1 hw
  have := showDot_len (h p hp)
  omega) (by rw [List.length_map]; omega)
 rw [List.map_map] at jr
 exact jr
theorem und_end {A : List D} {QR RL WS : List D} {n : Int} {x : Sl} {l : List Nat} (hf : m_law_refused [(shK, A)] [.str "back", .int 6] = .ok (.bl true) [(shK, A)]) (hd : m_Sheet_ask [(shK, A)] [.str "dots"] = .ok (.str (S l)) [(shK, A)]) (hn : (QR.length : Int) = n) (sn : Sz 10 n) (hc : cutD QR none (some (max 0 (n - 20))) = RL) (hlr : RL.length ≤ 100)
  (lc : ∀ s0 s1 s2 : Sl, lcN (lc1 (gName 3) tTrue (eCall m_law_word (aCons (eVar 3) aNil)) [s0, s1, s2, .no]) RL = .ok WS) (jr : joinR (.ok (.str " ")) (.ok WS) = .ok (.im (.str (S l)))) :
  retL 1 (m_law_undone_r2 [.og (.lent 0 shK) A, .im (.lst QR), x, .no]) = .ok (.bl true) [(shK, A)] := by
 have hz : sizeLine = 16777216 := sizeLine_eq
 unfold m_law_undone_r2 m_law_undone_r1
 generalize m_Sheet_ask = ma at hd ⊢
 generalize m_law_refused = mr at hf ⊢
 generalize S l = SL at *
 walk_at "ev"
 rw [hf]
 walk_at "ev"
 rw [hd]
 walk_at "ev"
 rw [ev_join]
 walk_at "ev"
 rw [hn]
 walk_at "evs"
 rw [beq_self_eq_true]
theorem law_undone_ok {r : List P4} (hr : GoodR r) : ∃ s', m_law_undone [shU (undS r 0)] [rowD r] = .ok (.bl true) [shU s'] := by
 have hl := hr.len
 have ql := quads_len r
 have g := undS_good hr (min 20 r.length)
 have hE : (undS r (min 20 r.length)).ear = [] := by rw [show min 20 r.length = min r.length 20 by omega]; exact undS_end r
 have ab := ask_back g
 rw [if_pos hE, show S L_back = ("back" : Str) by apply ext_tl; rfl] at ab
 have hf := law_refused_ok (s := undS r (min 20 r.length)) (x := .str "back") (way := 6) ⟨"TooFew", ab, .inr (.inr (.inr (.inr (.inr (.inr ⟨rfl, rfl⟩)))))⟩
 have hd := ask_dots g
 rw [show S L_dots = ("dots" : Str) by apply ext_tl; rfl] at hd
 have hnow : (undS r (min 20 r.length)).now = r.take (r.length - min 20 r.length) := rfl
 have gt : ∀ p ∈ r.take (r.length - min 20 r.length), DotOk p := fun p hp => hr.ok p (List.mem_of_mem_take hp)
 have lt : (r.take (r.length - min 20 r.length)).length ≤ 30 := by rw [List.length_take]; omega
 rw [hnow] at hd
 have lc := words_lc gt
 have jr := dots_join gt (by omega)
 rw [← lit_sp] at jr
 have sn : Sz 10 (r.length : Int) := .of_lt 1000 (by omega) (by decide)
 obtain ⟨x, lp⟩ := und_loop hr .no
 have en := und_end (x := x) hf hd (by rw [ql]) sn (take_quads hl) (by rw [quads_len]; omega) lc jr
 refine ⟨undS r (min 20 r.length), ?_⟩
 have e0 : m_law_undone [shU (undS r 0)] [rowD r] = retL 1 (sq (sFor (gName 2) (iRange1 (eMin2 (eC (.int 20)) (eLen (eVar 1)))) m_law_undone_b1) m_law_undone_r2 [.og (.lent 0 shK) (shD (undS r 0)), .im (rowD r), .no, .no]) := rfl
 rw [e0]
 unfold shU
 generalize shD (undS r 0) = A at *
 generalize shD (undS r (min 20 r.length)) = B at *
 generalize m_law_undone_b1 = b1 at *
 generalize m_law_undone_r2 = r2 at *
 unfold rowD at *
 have mn : (min 20 (r.length : Int)).toNat = min 20 r.length := by omega
 generalize D.quads r = QR at *
 walk_at "ev"
 rw [ql]
 walk_at "ev"
 rw [mn, lp]
 exact en
end
section
open TL NumText
abbrev lwE (s0 : Sl) (QR : List D) (tx : D) (s4 : Sl) (LS A : List D) (s7 s8 s9 : Sl) : Fr := [s0, .im (.lst QR), .no, .im tx, s4, .im (.lst LS), .og shK A, s7, s8, s9]
theorem put_step {s0 s4 s8 s9 : Sl} {QR LS A B : List D} {tx qp : D} {k : Int} {l m : List Nat} (hw : m_law_word [qp] = .ok (.im (.str (S m)))) (hq : atR QR k = .ok (.im qp)) (ad : addV (.ok (.im (.str "put "))) (.ok (.im (.str (S m)))) = .ok (.im (.str (S (joinL [32] [L_put, m]))))) (ha : m_Sheet_ask [(shK, A)] [.str (S (joinL [32] [L_put, m]))] = .ok (.str (S l)) [(shK, B)]) (sk : Sz 10 k) (hk : strcR (.ok (.int (k + 1))) = .ok (.im (.str (S l)))) :
  m_law_b1 (lwE s0 QR tx s4 LS A (.im (.int k)) s8 s9) = .nx (lwE s0 QR tx s4 LS B (.im (.int k)) s8 s9) := by
 unfold m_law_b1
 generalize m_Sheet_ask = ma at ha ⊢
 generalize m_law_word = mw at hw ⊢
 generalize S (joinL [32] [L_put, m]) = SR at *
 generalize S l = SL at *
 generalize S m = SM at *
 walk_at "ev"
 rw [hq]
 walk_at "ev"
 rw [hw]
 walk_at "ev"
 rw [ad]
 walk_at "ev"
 rw [ha]
 walk_at "evs"
 rw [beq_self_eq_true]
 walk_at "ev"
theorem put_word (p : P4) (h : DotOk p) : addV (.ok (.im (.str "put "))) (.ok (.im (.str (S (showDot p))))) = .ok (.im (.str (S (joinL [32] [L_put, showDot p])))) := by
 have l := showDot_len h
 rw [show ("put " : Str) = S (L_put ++ [32]) by apply ext_tl; rfl, addS (by simp only [List.length_append, List.length_cons, List.length_nil]; omega)]
 rw [show (L_put ++ [32]) ++ showDot p = joinL [32] [L_put, showDot p] by show _ = L_put ++ ([32] ++ showDot p); simp]
theorem quads_at {r : List P4} {i : Nat} (h : i < r.length) : atR (D.quads r) (0 + (i : Int)) = .ok (.im (q4 r[i])) := by
 apply atR_ok
 have ql := quads_len r
 have h2 : ((0 : Int) + (i : Int)).toNat = i := by omega
 unfold atI ixN
 rw [if_pos (by omega), if_pos (by omega)]
 show (D.quads r)[((0 : Int) + (i : Int)).toNat]? = _
 rw [h2]
 unfold D.quads
 rw [List.getElem?_map, List.getElem?_eq_getElem h]
 rfl
theorem atI_memD {l : List D} {k : Int} (h0 : 0 ≤ k) (h1 : k < l.length) : ∃ d ∈ l, atR l k = .ok (.im d) := by
 have hk : k.toNat < l.length := by omega
 refine ⟨l[k.toNat], List.getElem_mem hk, atR_ok ?_⟩
 unfold atI ixN
 rw [if_pos h0, if_pos h1]
 show l[k.toNat]? = _
 rw [List.getElem?_eq_getElem hk]
theorem put_loop {r : List P4} (hr : GoodR r) (s0 s4 s7 s8 s9 : Sl) (tx : D) (LS : List D) : ∃ x, forN (gName 7) m_law_b1 (rngD 0 r.length) (lwE s0 (D.quads r) tx s4 LS (shD (putS r 0)) s7 s8 s9) = .nx (lwE s0 (D.quads r) tx s4 LS (shD (putS r r.length)) x s8 s9) := by
 have hl := hr.len
 obtain ⟨E, k1, x, k2⟩ := forN_rng (g := gName 7) (f := m_law_b1)
  (fun i E => ∃ x : Sl, E = lwE s0 (D.quads r) tx s4 LS (shD (putS r i)) x s8 s9) 0 r.length (lwE s0 (D.quads r) tx s4 LS (shD (putS r 0)) s7 s8 s9)
  (fun i E hi ⟨x, e⟩ => by
   subst e
   refine ⟨_, rfl, ?_⟩
   have a := put_turn hr hi
   have dp := hr.ok r[i] (List.getElem_mem hi)
   have sk : Sz 10 (0 + (i : Int)) := .of_lt 1000 (by omega) (by decide)
   have lk : strcR (.ok (.int ((0 + (i : Int)) + 1))) = .ok (.im (.str (S (numZ ((i + 1 : Nat) : Int))))) := by
    have z := len_str (n := i + 1) (by omega)
    rw [show (0 : Int) + (i : Int) + 1 = ((i + 1 : Nat) : Int) by omega]
    exact z
   exact ⟨_, .inl (put_step (word_ok dp) (quads_at hi) (put_word _ dp) a sk lk), _, rfl⟩) ⟨s7, rfl⟩
 rw [k2] at k1
 exact ⟨x, k1⟩
theorem cell_step {s0 s4 s7 s9 : Sl} {QR LS A : List D} {tx x : D} {l : List Nat} {z way : Int} (etx : tx = .str (S l)) (hx : atR LS (z * 48271 % 2147483647 % (LS.length : Int)) = .ok (.im (rwD x way))) (hp : 0 < LS.length) (hf : m_law_refused [(shK, A)] [x, .int way] = .ok (.bl true) [(shK, A)]) (hd : m_Sheet_ask [(shK, A)] [.str "dots"] = .ok (.str (S l)) [(shK, A)]) (sz : Sz 1048576 z) :
  m_law_b2 (lwE s0 QR tx s4 LS A s7 (.im (.int z)) s9) = .nx (lwE s0 QR tx (.im x) LS A s7 (.im (.int z)) (.im (.int way))) := by
 subst etx
 have h0 : ¬ (LS.length : Int) = 0 := by omega
 unfold m_law_b2
 generalize m_Sheet_ask = ma at hd ⊢
 generalize m_law_refused = mr at hf ⊢
 generalize S l = SL at *
 unfold rwD at hx
 walk_at "evs"
 (try rw [hx])
 walk_at "evs"
 (try rw [hf])
 (try walk_at "ev")
 (try rw [hd])
 (try walk_at "ev")
 (try rw [beq_self_eq_true])
 (try walk_at "ev")
theorem cell_ok {s : Sh} {s0 s4 s7 s9 : Sl} {QR LS : List D} {tx : D} {l : List Nat} {z : Int} (etx : tx = .str (S l)) (hR : Rws s LS) (hp : 0 < LS.length) (hd : m_Sheet_ask [shU s] [.str "dots"] = .ok (.str (S l)) [shU s]) (sz : Sz 1048576 z) :
  ∃ a b, m_law_b2 (lwE s0 QR tx s4 LS (shD s) s7 (.im (.int z)) s9) = .nx (lwE s0 QR tx a LS (shD s) s7 (.im (.int z)) b) := by
 have e1 := Int.emod_nonneg (z * 48271 % 2147483647) (b := (LS.length : Int)) (by omega)
 have e2 := Int.emod_lt_of_pos (z * 48271 % 2147483647) (b := (LS.length : Int)) (by omega)
 obtain ⟨d, hm, hx⟩ := atI_memD e1 e2
 obtain ⟨x, way, rfl, hr⟩ := hR d hm
 exact ⟨_, _, cell_step etx hx hp (law_refused_ok hr) hd sz⟩
theorem cells_ok {s : Sh} {s0 s7 : Sl} {QR LS : List D} {tx : D} {l : List Nat} (etx : tx = .str (S l)) (hR : Rws s LS) (hp : 0 < LS.length) (hd : m_Sheet_ask [shU s] [.str "dots"] = .ok (.str (S l)) [shU s]) :
  ∀ (cs : List Int) (a c b : Sl), (∀ z ∈ cs, Sz 1048576 z) → ∃ a' c' b', forN (gName 8) m_law_b2 (D.ints cs) (lwE s0 QR tx a LS (shD s) s7 c b) = .nx (lwE s0 QR tx a' LS (shD s) s7 c' b')
 | [], a, c, b, _ => ⟨a, c, b, rfl⟩
 | z :: cs, a, c, b, h => by
  obtain ⟨a1, b1, e⟩ := cell_ok (s0 := s0) (s4 := a) (s7 := s7) (s9 := b) (QR := QR) etx hR hp hd (h z List.mem_cons_self)
  obtain ⟨a', c', b', k⟩ := cells_ok (s0 := s0) (s7 := s7) (QR := QR) etx hR hp hd cs a1 (.im (.int z)) b1 fun x hx => h x (List.mem_cons_of_mem _ hx)
  refine ⟨a', c', b', ?_⟩
  show forN (gName 8) m_law_b2 (.int z :: D.ints cs) _ = _
  rw [forN]
  show nextO (m_law_b2 (lwE s0 QR tx a LS (shD s) s7 (.im (.int z)) b)) _ = _
  rw [e]
  exact k
end
section
open TL NumText
theorem words_lc2 {r : List P4} (h : ∀ p ∈ r, DotOk p) (s0 s1 s3 s4 s5 s6 s7 s8 s9 : Sl) : lcN (lc1 (gName 2) tTrue (eCall m_law_word (aCons (eVar 2) aNil)) [s0, s1, .no, s3, s4, s5, s6, s7, s8, s9]) (D.quads r) = .ok (r.map fun p => D.str (S (showDot p))) := by
 have sh := fun p hp => word_ok (h p hp)
 generalize m_law_word = mw at sh ⊢
 exact lcN_all (enc := q4) (v := fun p => D.str (S (showDot p))) (fun p hp => by
  have := sh p hp
  walk_at "ev"
  rw [this]
  walk_at "ev")
theorem rows_lc (w : Int) (s0 s1 s2 s3 s5 s6 s7 s8 s9 : Sl) : ∀ l : List D, lcN (lc1 (gName 4) tTrue (eTup (aCons (eVar 4) (aCons (eC (.int w)) aNil))) [s0, s1, s2, s3, .no, s5, s6, s7, s8, s9]) l = .ok (l.map fun d => rwD d w)
 | [] => rfl
 | d :: l => by
  rw [lcN, rows_lc w s0 s1 s2 s3 s5 s6 s7 s8 s9 l]
  rfl
theorem end_step {s0 s4 s7 s8 s9 : Sl} {QR LS A B : List D} {tx : D} (h : m_law_undone [(shK, A)] [.lst QR] = .ok (.bl true) [(shK, B)]) : retO (sq (suRet (uCall m_law_undone [6] (aOf (aCons (eVar 1) aNil)))) .nx (lwE s0 QR tx s4 LS A s7 s8 s9)) = .ok (.im (.bl true)) := by
 generalize m_law_undone = mu at h ⊢
 walk_at "ev"
 rw [h]
 walk_at "ev"
theorem cells_cut {ns : List Int} (hs : ∀ z ∈ ns, Sz 1048576 z) : ∃ cs : List Int, cutD (D.ints ns) (some 1) (some 41) = D.ints cs ∧ cs.length ≤ 63 ∧ ∀ z ∈ cellZ ns 0 :: cs, Sz 1048576 z := by
 refine ⟨cutL ns (some 1) (some 41), cut_map .., ?_, fun z hz => ?_⟩
 ·unfold cutL
  rw [List.length_take]
  have : HT.sIx ns.length ns.length (some 41) ≤ 41 := by unfold HT.sIx; dsimp only; split <;> omega
  omega
 ·rcases List.mem_cons.mp hz with e | e
  ·rw [e]
   unfold cellZ
   rw [List.getD_eq_getElem?_getD]
   cases h : ns[(0 : Int).toNat]? with
   | none => exact Sz.zero _
   | some x => exact hs x (List.mem_of_getElem? h)
  ·unfold cutL at e
   exact hs z (List.mem_of_mem_drop (List.mem_of_mem_take e))
theorem law_true (ns : List Int) (hl : ns.length ≤ 63) (hs : ∀ z ∈ ns, Sz 1048576 z) : m_law [.lst (D.ints ns)] = .ok (.im (.bl true)) := by
 have c0 := cell_at_ok (ns := ns) (k := 0) (by decide)
 have hz : sizeLine = 16777216 := sizeLine_eq
 obtain ⟨cs, hcs, hcl, hcz⟩ := cells_cut hs
 obtain ⟨p, rest, hd, hok, h3, h30⟩ := law_dots_ok (cellZ ns 0)
 obtain ⟨r, er⟩ : ∃ r, r = frontP p :: rest := ⟨_, rfl⟩
 rw [← er] at hd hok h3 h30
 have hr : GoodR r := ⟨h30, hok⟩
 have ql := quads_len r
 have hnow : (putS r r.length).now = r := List.take_length
 have g := putS_good hr r.length
 obtain ⟨L, hde, hRL, hLl⟩ := law_deeds_ok g (by rw [hnow]; exact er)
 rw [hnow] at hde
 have hR : Rws (putS r r.length) ((naL.map fun d => rwD d 0) ++ ((ntL.map fun d => rwD d 1) ++ L)) := (rws_no _).app ((rws_nt _).app hRL)
 have l1 : (naL.map fun d => rwD d 0).length = 29 := by rw [List.length_map, naL_len]
 have l2 : (ntL.map fun d => rwD d 1).length = 25 := by rw [List.length_map, ntL_len]
 have rl1 := fun s0 s1 s2 s3 s5 s6 s7 s8 s9 => rows_lc 0 s0 s1 s2 s3 s5 s6 s7 s8 s9 naL
 have rl2 := fun s0 s1 s2 s3 s5 s6 s7 s8 s9 => rows_lc 1 s0 s1 s2 s3 s5 s6 s7 s8 s9 ntL
 have n1 := no_asks_ok
 have n2 := no_texts_ok
 have wl := words_lc2 hok
 have jr := dots_join hok (by omega)
 rw [← lit_sp] at jr
 have hdo := ask_dots g
 rw [hnow, show S L_dots = ("dots" : Str) by apply ext_tl; rfl] at hdo
 obtain ⟨s', hun⟩ := law_undone_ok hr
 rw [undS_zero] at hun
 obtain ⟨x7, pl⟩ := put_loop hr (.im (.lst (D.ints ns))) .no .no .no .no (.str (S (joinL [32] (r.map showDot)))) ((naL.map fun d => rwD d 0) ++ ((ntL.map fun d => rwD d 1) ++ L))
 obtain ⟨a', c', b', cl⟩ := cells_ok (s0 := .im (.lst (D.ints ns))) (s7 := x7) (QR := D.quads r) rfl hR (by rw [List.length_append, l1]; omega) hdo (cellZ ns 0 :: cs) .no .no .no hcz
 have en := end_step (s0 := .im (.lst (D.ints ns))) (s4 := a') (s7 := x7) (s8 := c') (s9 := b') (LS := (naL.map fun d => rwD d 0) ++ ((ntL.map fun d => rwD d 1) ++ L)) (tx := .str (S (joinL [32] (r.map showDot)))) hun
 have ini := init_ok
 rw [show shD e0 = [.lst [], .lst []] from rfl] at ini
 rw [putS_zero, show shD e0 = [.lst [], .lst []] from rfl] at pl
 have cl2 : forN (gName 8) m_law_b2 (.int (cellZ ns 0) :: D.ints cs) _ = _ := cl
 have na1 : naL.length = 29 := naL_len
 have nt1 : ntL.length = 25 := ntL_len
 have hcl2 : (D.ints cs).length ≤ 63 := by unfold D.ints; rw [List.length_map]; exact hcl
 clear cl hRL hR g hr hun hcz hs hok hdo
 unfold m_law m_law_r1
 generalize hEnd : sq (suRet (uCall m_law_undone [6] (aOf (aCons (eVar 1) aNil)))) .nx = en' at en ⊢
 generalize m_law_b1 = b1 at pl ⊢
 generalize m_law_b2 = b2 at cl2 ⊢
 generalize m_law_cell_at = mc at c0 ⊢
 generalize m_law_dots = md at hd ⊢
 generalize m_law_deeds = mde at hde ⊢
 generalize m_law_no_asks = mna at n1 ⊢
 generalize m_law_no_texts = mnt at n2 ⊢
 generalize m_Sheet_init = mi at ini ⊢
 generalize S (joinL [32] (r.map showDot)) = TX at *
 generalize (naL.map fun d => rwD d 0) = NA at *
 generalize (ntL.map fun d => rwD d 1) = NB at *
 generalize naL = nal at *
 generalize ntL = ntl at *
 generalize D.ints ns = NS at *
 generalize D.ints cs = CS at *
 generalize cellZ ns 0 = z0 at *
 generalize shD (putS r r.length) = SP at *
 generalize (r.map fun p => D.str (S (showDot p))) = WR at *
 have rlen : (r.length : Int).toNat = r.length := Int.toNat_natCast _
 generalize D.quads r = QR at *
 unfold lwE at pl cl2 en
 walk_at "ev"
 rw [c0]
 walk_at "ev"
 rw [hd]
 walk_at "ev"
 rw [ev_join]
 walk_at "ev"
 rw [wl]
 walk_at "ev"
 rw [jr]
 walk_at "ev"
 rw [n1]
 walk_at "ev"
 rw [rl1]
 walk_at "ev"
 rw [n2]
 walk_at "ev"
 rw [rl2]
 walk_at "ev"
 rw [ql, hde]
 walk_at "ev"
 rw [ini]
 walk_at "ev"
 rw [ql]
 walk_at "ev"
 rw [rlen, pl]
 walk_at "ev"
 rw [c0]
 walk_at "ev"
 rw [hcs]
 walk_at "ev"
 rw [cl2]
 walk_at "ev"
 exact en
end
end DL
set_option maxHeartbeats 4000000
namespace DL
open PySem PySem.Spec PyProof.Rows L2
def topS (i : Nat) : Stmt := PySem.Challenge.pw_halvecut_k85_what_a_sheet_refuses.main.body.getD i (.Pass ⟨0, 0, 0, 0⟩)
local macro_rules | `(tactic| walk_at "sc") => `(tactic| exact ⟨rfl, rfl, rfl, by decide +kernel, rfl, by decide +kernel, by decide +kernel⟩)
abbrev s_is_whole : Stmt := topS 12
theorem sc_is_whole : FnScope ["thing"] ["thing"] (defScope s_is_whole) := by walk_at "sc"
abbrev s_common : Stmt := topS 13
theorem sc_common : FnScope ["numbers", "found", "number", "rest"] ["numbers"] (defScope s_common) := by walk_at "sc"
abbrev s_lowest : Stmt := topS 14
theorem sc_lowest : FnScope ["numbers", "by", "number"] ["numbers"] (defScope s_lowest) := by walk_at "sc"
abbrev s_place : Stmt := topS 15
theorem sc_place : FnScope ["by", "x", "y"] ["by", "x", "y"] (defScope s_place) := by walk_at "sc"
abbrev s_is_near : Stmt := topS 30
theorem sc_is_near : FnScope ["thing"] ["thing"] (defScope s_is_near) := by walk_at "sc"
abbrev s_is_dot : Stmt := topS 31
theorem sc_is_dot : FnScope ["row"] ["row"] (defScope s_is_dot) := by walk_at "sc"
abbrev s_made_dots : Stmt := topS 32
theorem sc_made_dots : FnScope ["rows", "row"] ["rows"] (defScope s_made_dots) := by walk_at "sc"
abbrev s_ask_map : Stmt := topS 35
theorem sc_ask_map : FnScope ["by_map", "number"] ["by_map"] (defScope s_ask_map) := by walk_at "sc"
abbrev s_sent : Stmt := topS 36
theorem sc_sent : FnScope ["dots", "by_map", "a", "b", "c", "d", "e", "f", "found", "x", "y", "painted", "weight"] ["dots", "by_map"] (defScope s_sent) := by walk_at "sc"
abbrev s_two_groups : Stmt := topS 75
theorem sc_two_groups : FnScope ["spots", "one", "number", "others", "found"] ["spots"] (defScope s_two_groups) := by walk_at "sc"
abbrev s_three_groups : Stmt := topS 80
theorem sc_three_groups : FnScope ["spots", "found", "ways", "groups"] ["spots"] (defScope s_three_groups) := by walk_at "sc"
abbrev s_deepest : Stmt := topS 101
theorem sc_deepest : FnScope ["dots", "sides", "gauge", "weight", "levels", "many", "x", "y", "colour", "last", "here"] ["dots"] (defScope s_deepest) := by walk_at "sc"
abbrev s_show_dot : Stmt := topS 106
theorem sc_show_dot : FnScope ["dot", "found"] ["dot"] (defScope s_show_dot) := by walk_at "sc"
abbrev s_show_dots : Stmt := topS 107
theorem sc_show_dots : FnScope ["dots", "dot"] ["dots"] (defScope s_show_dots) := by walk_at "sc"
abbrev s_show_place : Stmt := topS 108
theorem sc_show_place : FnScope ["here", "found"] ["here"] (defScope s_show_place) := by walk_at "sc"
abbrev s_int_of : Stmt := topS 109
theorem sc_int_of : FnScope ["word", "most", "below", "digits", "found", "sign"] ["word", "most"] (defScope s_int_of) := by walk_at "sc"
abbrev s_read_dot : Stmt := topS 110
theorem sc_read_dot : FnScope ["word", "right", "colon", "rest", "above", "mark", "heavy", "weight"] ["word"] (defScope s_read_dot) := by walk_at "sc"
abbrev s_read_place : Stmt := topS 111
theorem sc_read_place : FnScope ["text", "by", "mark", "rest", "right", "colon", "above", "found"] ["text"] (defScope s_read_place) := by walk_at "sc"
abbrev s_kinds_behind : Stmt := topS 114
theorem sc_kinds_behind : FnScope ["verb"] ["verb"] (defScope s_kinds_behind) := by walk_at "sc"
abbrev s_meant : Stmt := topS 115
theorem sc_meant : FnScope ["kind", "word", "colour"] ["kind", "word"] (defScope s_meant) := by walk_at "sc"
abbrev s_changed : Stmt := topS 116
theorem sc_changed : FnScope ["dots", "verb", "words"] ["dots", "verb", "words"] (defScope s_changed) := by walk_at "sc"
abbrev s_told_of_places : Stmt := topS 119
theorem sc_told_of_places : FnScope ["dots", "verb", "words", "found", "dot", "spots"] ["dots", "verb", "words"] (defScope s_told_of_places) := by walk_at "sc"
abbrev s_Sheet_init : Stmt := inClass (topS 120) 0
theorem sc_Sheet_init : FnScope ["self"] ["self"] (defScope s_Sheet_init) := by walk_at "sc"
abbrev s_Sheet_undone : Stmt := inClass (topS 120) 1
theorem sc_Sheet_undone : FnScope ["self"] ["self"] (defScope s_Sheet_undone) := by walk_at "sc"
abbrev s_Sheet_done : Stmt := inClass (topS 120) 2
theorem sc_Sheet_done : FnScope ["self", "verb", "words", "behind"] ["self", "verb", "words"] (defScope s_Sheet_done) := by walk_at "sc"
abbrev s_Sheet_ask : Stmt := inClass (topS 120) 3
theorem sc_Sheet_ask : FnScope ["self", "row", "words", "verb", "kinds", "kind", "word"] ["self", "row"] (defScope s_Sheet_ask) := by walk_at "sc"
abbrev s_law_cell_at : Stmt := topS 122
theorem sc_law_cell_at : FnScope ["_law_script", "_law_k"] ["_law_script", "_law_k"] (defScope s_law_cell_at) := by walk_at "sc"
abbrev s_law_stream : Stmt := topS 123
theorem sc_law_stream : FnScope ["_law_cell", "_law_many", "_law_found", "_law_number", "_law_k"] ["_law_cell", "_law_many"] (defScope s_law_stream) := by walk_at "sc"
abbrev s_law_dots : Stmt := topS 124
theorem sc_law_dots : FnScope ["_law_cell", "_law_xs", "_law_many", "_law_k", "_law_found"] ["_law_cell"] (defScope s_law_dots) := by walk_at "sc"
abbrev s_law_word : Stmt := topS 125
theorem sc_law_word : FnScope ["_law_dot", "_law_word_here"] ["_law_dot"] (defScope s_law_word) := by walk_at "sc"
abbrev s_law_no_asks : Stmt := topS 126
theorem sc_law_no_asks : FnScope ["_law_some"] [] (defScope s_law_no_asks) := by walk_at "sc"
abbrev s_law_no_texts : Stmt := topS 127
theorem sc_law_no_texts : FnScope ["_law_some"] [] (defScope s_law_no_texts) := by walk_at "sc"
abbrev s_law_deeds : Stmt := topS 128
theorem sc_law_deeds : FnScope ["_law_many", "_law_found"] ["_law_many"] (defScope s_law_deeds) := by walk_at "sc"
abbrev s_law_kinds : Stmt := topS 129
theorem sc_law_kinds : FnScope ["_law_caught", "_law_some"] ["_law_caught"] (defScope s_law_kinds) := by walk_at "sc"
abbrev s_law_refused : Stmt := topS 130
theorem sc_law_refused : FnScope ["_law_sheet", "_law_row", "_law_way", "_law_caught", "error", "_law_k"] ["_law_sheet", "_law_row", "_law_way"] (defScope s_law_refused) := by walk_at "sc"
abbrev s_law_undone : Stmt := topS 131
theorem sc_law_undone : FnScope ["_law_sheet", "_law_dots_here", "_law_k", "_law_dot"] ["_law_sheet", "_law_dots_here"] (defScope s_law_undone) := by walk_at "sc"
abbrev s_law : Stmt := topS 132
theorem sc_law : FnScope ["_law_script", "_law_dots_here", "_law_dot", "_law_text", "_law_row", "_law_some", "_law_sheet", "_law_k", "_law_cell", "_law_way"] ["_law_script"] (defScope s_law) := by walk_at "sc"
structure Tx (K : PySem.W.Frag) (mg : Str → Option Value) : Prop where
 f_is_whole : At K mg "is_whole" s_is_whole ["thing"]
 f_common : At K mg "common" s_common ["numbers"]
 f_lowest : At K mg "lowest" s_lowest ["numbers"]
 f_place : At K mg "place" s_place ["by", "x", "y"]
 f_is_near : At K mg "is_near" s_is_near ["thing"]
 f_is_dot : At K mg "is_dot" s_is_dot ["row"]
 f_made_dots : At K mg "made_dots" s_made_dots ["rows"]
 f_ask_map : At K mg "ask_map" s_ask_map ["by_map"]
 f_sent : At K mg "sent" s_sent ["dots", "by_map"]
 f_two_groups : At K mg "two_groups" s_two_groups ["spots"]
 f_three_groups : At K mg "three_groups" s_three_groups ["spots"]
 f_deepest : At K mg "deepest" s_deepest ["dots"]
 f_show_dot : At K mg "show_dot" s_show_dot ["dot"]
 f_show_dots : At K mg "show_dots" s_show_dots ["dots"]
 f_show_place : At K mg "show_place" s_show_place ["here"]
 f_int_of : At K mg "int_of" s_int_of ["word", "most"]
 f_read_dot : At K mg "read_dot" s_read_dot ["word"]
 f_read_place : At K mg "read_place" s_read_place ["text"]
 f_kinds_behind : At K mg "kinds_behind" s_kinds_behind ["verb"]
 f_meant : At K mg "meant" s_meant ["kind", "word"]
 f_changed : At K mg "changed" s_changed ["dots", "verb", "words"]
 f_told_of_places : At K mg "told_of_places" s_told_of_places ["dots", "verb", "words"]
 f_law_cell_at : At K mg "_law_cell_at" s_law_cell_at ["_law_script", "_law_k"]
 f_law_stream : At K mg "_law_stream" s_law_stream ["_law_cell", "_law_many"]
 f_law_dots : At K mg "_law_dots" s_law_dots ["_law_cell"]
 f_law_word : At K mg "_law_word" s_law_word ["_law_dot"]
 f_law_no_asks : At K mg "_law_no_asks" s_law_no_asks []
 f_law_no_texts : At K mg "_law_no_texts" s_law_no_texts []
 f_law_deeds : At K mg "_law_deeds" s_law_deeds ["_law_many"]
 f_law_kinds : At K mg "_law_kinds" s_law_kinds ["_law_caught"]
 f_law_refused : At K mg "_law_refused" s_law_refused ["_law_sheet", "_law_row", "_law_way"]
 f_law_undone : At K mg "_law_undone" s_law_undone ["_law_sheet", "_law_dots_here"]
 c_PlaneError : ∃ Cl, ExcT K mg "PlaneError" Cl
 c_NoPlace : ∃ Cl, ExcT K mg "NoPlace" Cl
 c_NoLine : ∃ Cl, ExcT K mg "NoLine" Cl
 c_NoDots : ∃ Cl, ExcT K mg "NoDots" Cl
 c_NoMap : ∃ Cl, ExcT K mg "NoMap" Cl
 c_TooFew : ∃ Cl, ExcT K mg "TooFew" Cl
 c_TooMany : ∃ Cl, ExcT K mg "TooMany" Cl
 c_NoSuch : ∃ Cl, ExcT K mg "NoSuch" Cl
 c_NoText : ∃ Cl, ExcT K mg "NoText" Cl
 c_NoAsk : ∃ Cl, ExcT K mg "NoAsk" Cl
 g_FAR : ∃ t, mg "FAR" = some (.int 1000000000000 t)
 g_HEAVY : ∃ t, mg "HEAVY" = some (.int 1000000000 t)
 g_MOST_DOTS_dots : ∃ t, mg "MOST_DOTS_dots" = some (.int 30 t)
 g_MOST_DEEP : ∃ t, mg "MOST_DEEP" = some (.int 12 t)
 g_LETTERS : ∃ t, mg "LETTERS" = some (.str "abc" t)
 g_DIGITS : ∃ t, mg "DIGITS" = some (.str "0123456789" t)
 g_MOST_DOTS_texts : ∃ t, mg "MOST_DOTS_texts" = some (.int 30 t)
 g_REMEMBERED : ∃ t, mg "REMEMBERED" = some (.int 20 t)
 b_ValueError : mg "ValueError" = none
 b_abs : mg "abs" = none
 b_int : mg "int" = none
 b_isinstance : mg "isinstance" = none
 b_len : mg "len" = none
 b_list : mg "list" = none
 b_max : mg "max" = none
 b_min : mg "min" = none
 b_range : mg "range" = none
 b_set : mg "set" = none
 b_sorted : mg "sorted" = none
 b_str : mg "str" = none
 b_sum : mg "sum" = none
 b_tuple : mg "tuple" = none
 b_zip : mg "zip" = none
 nl : NoLists K
 o_Sheet : OwnT K mg "Sheet" ["now", "earlier"]
 i_Sheet : InitAt K "Sheet" "Sheet.__init__" s_Sheet_init ["self"]
 h_Sheet_undone : MethAt K "Sheet" "undone" "Sheet.undone" s_Sheet_undone ["self"]
 h_Sheet_done : MethAt K "Sheet" "done" "Sheet.done" s_Sheet_done ["self", "verb", "words"]
 h_Sheet_ask : MethAt K "Sheet" "ask" "Sheet.ask" s_Sheet_ask ["self", "row"]
 s_NoAsk_PlaneError : SubT K "NoAsk" "PlaneError" true
 s_NoAsk_NoAsk : SubT K "NoAsk" "NoAsk" true
 s_NoAsk_NoText : SubT K "NoAsk" "NoText" false
 s_NoAsk_NoMap : SubT K "NoAsk" "NoMap" false
 s_NoAsk_NoSuch : SubT K "NoAsk" "NoSuch" false
 s_NoAsk_NoDots : SubT K "NoAsk" "NoDots" false
 s_NoAsk_TooMany : SubT K "NoAsk" "TooMany" false
 s_NoAsk_TooFew : SubT K "NoAsk" "TooFew" false
 s_NoAsk_NoPlace : SubT K "NoAsk" "NoPlace" false
 v_NoAsk : SubV K "NoAsk"
 s_NoDots_PlaneError : SubT K "NoDots" "PlaneError" true
 s_NoDots_NoAsk : SubT K "NoDots" "NoAsk" false
 s_NoDots_NoText : SubT K "NoDots" "NoText" false
 s_NoDots_NoMap : SubT K "NoDots" "NoMap" false
 s_NoDots_NoSuch : SubT K "NoDots" "NoSuch" false
 s_NoDots_NoDots : SubT K "NoDots" "NoDots" true
 s_NoDots_TooMany : SubT K "NoDots" "TooMany" false
 s_NoDots_TooFew : SubT K "NoDots" "TooFew" false
 s_NoDots_NoPlace : SubT K "NoDots" "NoPlace" false
 v_NoDots : SubV K "NoDots"
 s_NoLine_PlaneError : SubT K "NoLine" "PlaneError" true
 s_NoLine_NoAsk : SubT K "NoLine" "NoAsk" false
 s_NoLine_NoText : SubT K "NoLine" "NoText" false
 s_NoLine_NoMap : SubT K "NoLine" "NoMap" false
 s_NoLine_NoSuch : SubT K "NoLine" "NoSuch" false
 s_NoLine_NoDots : SubT K "NoLine" "NoDots" false
 s_NoLine_TooMany : SubT K "NoLine" "TooMany" false
 s_NoLine_TooFew : SubT K "NoLine" "TooFew" false
 s_NoLine_NoPlace : SubT K "NoLine" "NoPlace" false
 v_NoLine : SubV K "NoLine"
 s_NoMap_PlaneError : SubT K "NoMap" "PlaneError" true
 s_NoMap_NoAsk : SubT K "NoMap" "NoAsk" false
 s_NoMap_NoText : SubT K "NoMap" "NoText" false
 s_NoMap_NoMap : SubT K "NoMap" "NoMap" true
 s_NoMap_NoSuch : SubT K "NoMap" "NoSuch" false
 s_NoMap_NoDots : SubT K "NoMap" "NoDots" false
 s_NoMap_TooMany : SubT K "NoMap" "TooMany" false
 s_NoMap_TooFew : SubT K "NoMap" "TooFew" false
 s_NoMap_NoPlace : SubT K "NoMap" "NoPlace" false
 v_NoMap : SubV K "NoMap"
 s_NoPlace_PlaneError : SubT K "NoPlace" "PlaneError" true
 s_NoPlace_NoAsk : SubT K "NoPlace" "NoAsk" false
 s_NoPlace_NoText : SubT K "NoPlace" "NoText" false
 s_NoPlace_NoMap : SubT K "NoPlace" "NoMap" false
 s_NoPlace_NoSuch : SubT K "NoPlace" "NoSuch" false
 s_NoPlace_NoDots : SubT K "NoPlace" "NoDots" false
 s_NoPlace_TooMany : SubT K "NoPlace" "TooMany" false
 s_NoPlace_TooFew : SubT K "NoPlace" "TooFew" false
 s_NoPlace_NoPlace : SubT K "NoPlace" "NoPlace" true
 v_NoPlace : SubV K "NoPlace"
 s_NoSuch_PlaneError : SubT K "NoSuch" "PlaneError" true
 s_NoSuch_NoAsk : SubT K "NoSuch" "NoAsk" false
 s_NoSuch_NoText : SubT K "NoSuch" "NoText" false
 s_NoSuch_NoMap : SubT K "NoSuch" "NoMap" false
 s_NoSuch_NoSuch : SubT K "NoSuch" "NoSuch" true
 s_NoSuch_NoDots : SubT K "NoSuch" "NoDots" false
 s_NoSuch_TooMany : SubT K "NoSuch" "TooMany" false
 s_NoSuch_TooFew : SubT K "NoSuch" "TooFew" false
 s_NoSuch_NoPlace : SubT K "NoSuch" "NoPlace" false
 v_NoSuch : SubV K "NoSuch"
 s_NoText_PlaneError : SubT K "NoText" "PlaneError" true
 s_NoText_NoAsk : SubT K "NoText" "NoAsk" false
 s_NoText_NoText : SubT K "NoText" "NoText" true
 s_NoText_NoMap : SubT K "NoText" "NoMap" false
 s_NoText_NoSuch : SubT K "NoText" "NoSuch" false
 s_NoText_NoDots : SubT K "NoText" "NoDots" false
 s_NoText_TooMany : SubT K "NoText" "TooMany" false
 s_NoText_TooFew : SubT K "NoText" "TooFew" false
 s_NoText_NoPlace : SubT K "NoText" "NoPlace" false
 v_NoText : SubV K "NoText"
 s_TooFew_PlaneError : SubT K "TooFew" "PlaneError" true
 s_TooFew_NoAsk : SubT K "TooFew" "NoAsk" false
 s_TooFew_NoText : SubT K "TooFew" "NoText" false
 s_TooFew_NoMap : SubT K "TooFew" "NoMap" false
 s_TooFew_NoSuch : SubT K "TooFew" "NoSuch" false
 s_TooFew_NoDots : SubT K "TooFew" "NoDots" false
 s_TooFew_TooMany : SubT K "TooFew" "TooMany" false
 s_TooFew_TooFew : SubT K "TooFew" "TooFew" true
 s_TooFew_NoPlace : SubT K "TooFew" "NoPlace" false
 v_TooFew : SubV K "TooFew"
 s_TooMany_PlaneError : SubT K "TooMany" "PlaneError" true
 s_TooMany_NoAsk : SubT K "TooMany" "NoAsk" false
 s_TooMany_NoText : SubT K "TooMany" "NoText" false
 s_TooMany_NoMap : SubT K "TooMany" "NoMap" false
 s_TooMany_NoSuch : SubT K "TooMany" "NoSuch" false
 s_TooMany_NoDots : SubT K "TooMany" "NoDots" false
 s_TooMany_TooMany : SubT K "TooMany" "TooMany" true
 s_TooMany_TooFew : SubT K "TooMany" "TooFew" false
 s_TooMany_NoPlace : SubT K "TooMany" "NoPlace" false
 v_TooMany : SubV K "TooMany"
section
variable {P : Program} {w : World} {K : PySem.W.Frag} {mg : Str → Option Value} {base : Heap}
theorem ok_is_whole (T : Tx K mg) : CalX P w K mg base 1 "is_whole" ["thing"] (spM K 1 m_is_whole) := by
 obtain ⟨f, fd, F, hm, hb⟩ := T.f_is_whole.ex
 exact cal_body F hm hb sc_is_whole fun cdv A outer s H E hr => (bm_cons (sm_if (WM.tm (wm_or (tm_cmp (cm_isB (em_var 0))) (wm_or1 (tm_cmp (cm_isB (em_var 0)))))) (bm_cons (sm_ret em_bl)
 bm_nil) bm_nil)
 (bm_cons (sm_ret (em_isi (n := "int") T.b_int (by decide +kernel) (by simp) T.b_isinstance (em_var 0)))
 bm_nil))
theorem ok_common (T : Tx K mg) : CalX P w K mg base 1 "common" ["numbers"] (spM K 1 m_common) := by
 obtain ⟨f, fd, F, hm, hb⟩ := T.f_common.ex
 exact cal_body F hm hb sc_common fun cdv A outer s H E hr => (bm_cons (sm_set 1 em_int sc_common.nd)
 (bm_cons (sm_for (passes_of rfl) (gm_name 2 sc_common.nd) (im_val (em_var 0)) (show BM _ _ m_common_b1 from (bm_cons (sm_set 3 (em_abs T.b_abs (em_var 2)) sc_common.nd)
 (bm_cons (sm_while (passes_of rfl) (tm_cmp (cm_gt hr.units (em_var 3) em_int)) (show BM _ _ m_common_b2 from (bm_cons (sm_par 1 3 (am_cons (em_var 3) (am_cons (em_mod (em_var 1) (em_var 3)) am_nil)) sc_common.nd)
 bm_nil)))
 bm_nil))))
 (bm_cons (sm_retV 1)
 bm_nil)))
theorem ok_lowest (T : Tx K mg) : CalX P w K mg base 2 "lowest" ["numbers"] (spM K 1 m_lowest) := by
 obtain ⟨f, fd, F, hm, hb⟩ := T.f_lowest.ex
 exact cal_body F hm hb sc_lowest fun cdv A outer s H E hr => (bm_cons (sm_set 1 (em_max2 T.b_max (em_call (ok_common T) (hr.mono (by decide)) (am_cons (em_var 0) am_nil)) em_int) sc_lowest.nd)
 (bm_cons (sm_ret (em_tuple T.b_tuple (em_lc (own := [("number", 2)]) (im_val (em_var 0)) ⟨⟨[2], by decide, by rintro _ ⟨s1, H1, c, cl, fp, rfl⟩; exact (gm_name 2 sc_lowest.nd)⟩, (by rintro _ ⟨s1, H1, c, cl, fp, rfl⟩; exact tsm_nil), (by rintro _ ⟨s1, H1, c, cl, fp, rfl⟩; exact (em_div (em_var 2) (em_var 1)))⟩ (blkOk_by (N := ["numbers", "by", "number"]) (sc := defScope s_lowest) (by decide +kernel)) sc_lowest.nd)))
 bm_nil))
theorem ok_place (T : Tx K mg) : CalX P w K mg base 3 "place" ["by", "x", "y"] (spM K 3 m_place) := by
 obtain ⟨f, fd, F, hm, hb⟩ := T.f_place.ex
 exact cal_body F hm hb sc_place fun cdv A outer s H E hr => (bm_cons (sm_if (tm_cmp (cm_eq hr.units (em_var 0) em_int)) (bm_cons (Exists.elim T.c_NoPlace fun _ t => sm_raise t)
 bm_nil) bm_nil)
 (show BM _ _ m_place_r2 from (bm_cons (sm_if (tm_cmp (cm_gt hr.units (em_var 0) em_int)) (bm_cons (sm_ret (em_call (ok_lowest T) (hr.mono (by decide)) (am_cons (em_tup (am_cons (em_var 0) (am_cons (em_var 1) (am_cons (em_var 2) am_nil)))) am_nil)))
 bm_nil) bm_nil)
 (show BM _ _ m_place_r1 from (bm_cons (sm_ret (em_call (ok_lowest T) (hr.mono (by decide)) (am_cons (em_tup (am_cons (em_sub em_int (em_var 0)) (am_cons (em_sub em_int (em_var 1)) (am_cons (em_sub em_int (em_var 2)) am_nil)))) am_nil)))
 bm_nil)))))
theorem ok_is_near (T : Tx K mg) : CalX P w K mg base 2 "is_near" ["thing"] (spM K 1 m_is_near) := by
 obtain ⟨f, fd, F, hm, hb⟩ := T.f_is_near.ex
 exact cal_body F hm hb sc_is_near fun cdv A outer s H E hr => (bm_cons (sm_ret (em_and (em_call (ok_is_whole T) (hr.mono (by decide)) (am_cons (em_var 0) am_nil)) (em_b1 (em_cmp (cm_lt hr.units (em_abs T.b_abs (em_var 0)) (em_gint T.g_FAR))))))
 bm_nil)
theorem ok_is_dot (T : Tx K mg) : CalX P w K mg base 3 "is_dot" ["row"] (spM K 1 m_is_dot) := by
 obtain ⟨f, fd, F, hm, hb⟩ := T.f_is_dot.ex
 exact cal_body F hm hb sc_is_dot fun cdv A outer s H E hr => (bm_cons (sm_if (WM.tm (wm_or (tm_not (tm_val (em_isiT (ms := ["list", "tuple"]) T.b_isinstance (em_var 0) (fun _ _ => (ea_cons (ee_ty T.b_list) (ea_cons (ee_ty T.b_tuple) ea_nil))) (by simp)))) (wm_or1 (tm_cmp (cm_ne hr.units (em_len T.b_len (em_var 0)) em_int))))) (bm_cons (sm_ret em_bl)
 bm_nil) bm_nil)
 (show BM _ _ m_is_dot_r2 from (bm_cons (sm_if (WM.tm (wm_or (tm_not (tm_val (em_call (ok_is_near T) (hr.mono (by decide)) (am_cons (em_ix (em_var 0) em_int) am_nil)))) (wm_or (tm_not (tm_val (em_call (ok_is_near T) (hr.mono (by decide)) (am_cons (em_ix (em_var 0) em_int) am_nil)))) (wm_or (tm_not (tm_val (em_call (ok_is_whole T) (hr.mono (by decide)) (am_cons (em_ix (em_var 0) em_int) am_nil)))) (wm_or1 (tm_not (tm_val (em_call (ok_is_whole T) (hr.mono (by decide)) (am_cons (em_ix (em_var 0) em_int) am_nil))))))))) (bm_cons (sm_ret em_bl)
 bm_nil) bm_nil)
 (show BM _ _ m_is_dot_r1 from (bm_cons (sm_ret (em_and (em_chain op_le op_le em_int (em_ix (em_var 0) em_int) em_int) (em_b1 (em_chain op_le op_lt em_int (em_ix (em_var 0) em_int) (em_gint T.g_HEAVY)))))
 bm_nil)))))
theorem ok_made_dots (T : Tx K mg) : CalX P w K mg base 4 "made_dots" ["rows"] (spM K 1 m_made_dots) := by
 obtain ⟨f, fd, F, hm, hb⟩ := T.f_made_dots.ex
 exact cal_body F hm hb sc_made_dots fun cdv A outer s H E hr => (bm_cons (sm_if (WM.tm (wm_or (tm_not (tm_val (em_isi (n := "list") T.b_list (by decide +kernel) (by simp) T.b_isinstance (em_var 0)))) (wm_or1 (tm_cmp (cm_gt hr.units (em_len T.b_len (em_var 0)) (em_gint T.g_MOST_DOTS_dots)))))) (bm_cons (Exists.elim T.c_NoDots fun _ t => sm_raise t)
 bm_nil) bm_nil)
 (show BM _ _ m_made_dots_r1 from (bm_cons (sm_for (passes_of rfl) (gm_name 1 sc_made_dots.nd) (im_val (em_var 0)) (show BM _ _ m_made_dots_b1 from (bm_cons (sm_if (tm_not (tm_val (em_call (ok_is_dot T) (hr.mono (by decide)) (am_cons (em_var 1) am_nil)))) (bm_cons (Exists.elim T.c_NoDots fun _ t => sm_raise t)
 bm_nil) bm_nil)
 bm_nil)))
 (bm_cons (sm_ret (em_lc (own := [("row", 1)]) (im_val (em_var 0)) ⟨⟨[1], by decide, by rintro _ ⟨s1, H1, c, cl, fp, rfl⟩; exact (gm_name 1 sc_made_dots.nd)⟩, (by rintro _ ⟨s1, H1, c, cl, fp, rfl⟩; exact tsm_nil), (by rintro _ ⟨s1, H1, c, cl, fp, rfl⟩; exact (em_tuple T.b_tuple (em_var 1)))⟩ (blkOk_by (N := ["rows", "row"]) (sc := defScope s_made_dots) (by decide +kernel)) sc_made_dots.nd))
 bm_nil))))
theorem ok_ask_map (T : Tx K mg) : CalX P w K mg base 3 "ask_map" ["by_map"] (spM K 1 m_ask_map) := by
 obtain ⟨f, fd, F, hm, hb⟩ := T.f_ask_map.ex
 exact cal_body F hm hb sc_ask_map fun cdv A outer s H E hr => (bm_cons (sm_if (WM.tm (wm_or (tm_not (tm_val (em_isi (n := "tuple") T.b_tuple (by decide +kernel) (by simp) T.b_isinstance (em_var 0)))) (wm_or1 (tm_cmp (cm_ne hr.units (em_len T.b_len (em_var 0)) em_int))))) (bm_cons (Exists.elim T.c_NoMap fun _ t => sm_raise t)
 bm_nil) bm_nil)
 (bm_cons (sm_for (passes_of rfl) (gm_name 1 sc_ask_map.nd) (im_val (em_var 0)) (show BM _ _ m_ask_map_b1 from (bm_cons (sm_if (tm_not (tm_val (em_call (ok_is_near T) (hr.mono (by decide)) (am_cons (em_var 1) am_nil)))) (bm_cons (Exists.elim T.c_NoMap fun _ t => sm_raise t)
 bm_nil) bm_nil)
 bm_nil)))
 (show BM _ _ m_ask_map_r1 from (bm_cons (sm_if (tm_cmp (cm_eq hr.units (em_mul (em_ix (em_var 0) em_int) (em_ix (em_var 0) em_int)) (em_mul (em_ix (em_var 0) em_int) (em_ix (em_var 0) em_int)))) (bm_cons (Exists.elim T.c_NoMap fun _ t => sm_raise t)
 bm_nil) bm_nil)
 bm_nil))))
theorem ok_sent (T : Tx K mg) : CalX P w K mg base 5 "sent" ["dots", "by_map"] (spM K 2 m_sent) := by
 obtain ⟨f, fd, F, hm, hb⟩ := T.f_sent.ex
 exact cal_body F hm hb sc_sent fun cdv A outer s H E hr => (bm_cons (sm_drop (em_call (ok_ask_map T) (hr.mono (by decide)) (am_cons (em_var 1) am_nil)))
 (bm_cons (sm_asg (em_var 1) (gm_tup (gsm_cons (gm_name 2 sc_sent.nd) (gsm_cons (gm_name 3 sc_sent.nd) (gsm_cons (gm_name 4 sc_sent.nd) (gsm_cons (gm_name 5 sc_sent.nd) (gsm_cons (gm_name 6 sc_sent.nd) (gsm_cons (gm_name 7 sc_sent.nd) gsm_nil))))))))
 (bm_cons (sm_setO 8 (em_lst am_nil) sc_sent.nd)
 (bm_cons (sm_for (passes_of rfl) (gm_tup (gsm_cons (gm_name 9 sc_sent.nd) (gsm_cons (gm_name 10 sc_sent.nd) (gsm_cons (gm_name 11 sc_sent.nd) (gsm_cons (gm_name 12 sc_sent.nd) gsm_nil))))) (im_val (em_var 0)) (show BM _ _ m_sent_b1 from (bm_cons (sm_app 8 (em_tup (am_cons (em_add (em_add (em_mul (em_var 2) (em_var 9)) (em_mul (em_var 3) (em_var 10))) (em_var 6)) (am_cons (em_add (em_add (em_mul (em_var 4) (em_var 9)) (em_mul (em_var 5) (em_var 10))) (em_var 7)) (am_cons (em_var 11) (am_cons (em_var 12) am_nil))))))
 bm_nil)))
 (bm_frz (bm_cons (sm_ret (em_call (ok_made_dots T) (hr.mono (by decide)) (am_cons (em_var 8) am_nil)))
 bm_nil) [8])))))
theorem ok_two_groups (T : Tx K mg) : CalX P w K mg base 1 "two_groups" ["spots"] (spM K 1 m_two_groups) := by
 obtain ⟨f, fd, F, hm, hb⟩ := T.f_two_groups.ex
 exact cal_body F hm hb sc_two_groups fun cdv A outer s H E hr => (bm_cons (sm_if (tm_cmp (cm_lt hr.units (em_len T.b_len (em_var 0)) em_int)) (bm_cons (Exists.elim T.c_TooFew fun _ t => sm_raise t)
 bm_nil) bm_nil)
 (bm_cons sm_bad
 (bm_cons sm_bad
 (bm_cons sm_bad
 bm_nil))))
theorem ok_three_groups (T : Tx K mg) : CalX P w K mg base 1 "three_groups" ["spots"] (spM K 1 m_three_groups) := by
 obtain ⟨f, fd, F, hm, hb⟩ := T.f_three_groups.ex
 exact cal_body F hm hb sc_three_groups fun cdv A outer s H E hr => (bm_cons (sm_if (tm_cmp (cm_lt hr.units (em_len T.b_len (em_var 0)) em_int)) (bm_cons (Exists.elim T.c_TooFew fun _ t => sm_raise t)
 bm_nil) bm_nil)
 (bm_cons sm_bad
 (bm_cons sm_bad
 (bm_cons sm_bad
 (bm_cons sm_bad
 (bm_cons sm_bad
 (bm_cons sm_bad
 bm_nil)))))))
theorem ok_deepest (T : Tx K mg) : CalX P w K mg base 1 "deepest" ["dots"] (spM K 1 m_deepest) := by
 obtain ⟨f, fd, F, hm, hb⟩ := T.f_deepest.ex
 exact cal_body F hm hb sc_deepest fun cdv A outer s H E hr => (bm_cons (sm_if (tm_cmp (cm_eq hr.units (em_var 0) (em_lst am_nil))) (bm_cons (Exists.elim T.c_TooFew fun _ t => sm_raise t)
 bm_nil) bm_nil)
 (show BM _ _ m_deepest_r1 from (bm_cons (sm_if (tm_cmp (cm_gt hr.units (em_len T.b_len (em_var 0)) (em_gint T.g_MOST_DEEP))) (bm_cons (Exists.elim T.c_TooMany fun _ t => sm_raise t)
 bm_nil) bm_nil)
 (bm_cons sm_bad
 (bm_cons sm_bad
 (bm_cons sm_bad
 (bm_cons sm_bad
 (bm_cons sm_bad
 (bm_cons sm_bad
 (bm_cons sm_bad
 bm_nil))))))))))
theorem ok_show_dot (T : Tx K mg) : CalX P w K mg base 1 "show_dot" ["dot"] (spM K 1 m_show_dot) := by
 obtain ⟨f, fd, F, hm, hb⟩ := T.f_show_dot.ex
 exact cal_body F hm hb sc_show_dot fun cdv A outer s H E hr => (bm_cons (sm_set 1 (em_add (em_add (em_add (em_ix (em_gstr T.g_LETTERS) (em_ix (em_var 0) em_int)) (em_strc T.b_str (em_ix (em_var 0) em_int))) em_str) (em_strc T.b_str (em_ix (em_var 0) em_int))) sc_show_dot.nd)
 (bm_cons (sm_if (tm_cmp (cm_gt hr.units (em_ix (em_var 0) em_int) em_int)) (bm_cons (sm_set 1 (em_add (em_add (em_var 1) em_str) (em_strc T.b_str (em_ix (em_var 0) em_int))) sc_show_dot.nd)
 bm_nil) bm_nil)
 (bm_cons (sm_retV 1)
 bm_nil)))
theorem ok_show_dots (T : Tx K mg) : CalX P w K mg base 2 "show_dots" ["dots"] (spM K 1 m_show_dots) := by
 obtain ⟨f, fd, F, hm, hb⟩ := T.f_show_dots.ex
 exact cal_body F hm hb sc_show_dots fun cdv A outer s H E hr => (bm_cons (sm_ret (em_join em_str (em_lc (own := [("dot", 1)]) (im_val (em_var 0)) ⟨⟨[1], by decide, by rintro _ ⟨s1, H1, c, cl, fp, rfl⟩; exact (gm_name 1 sc_show_dots.nd)⟩, (by rintro _ ⟨s1, H1, c, cl, fp, rfl⟩; exact tsm_nil), (by rintro _ ⟨s1, H1, c, cl, fp, rfl⟩; exact (em_call (ok_show_dot T) (hr.mono (by decide)) (am_cons (em_var 1) am_nil)))⟩ (blkOk_by (N := ["dots", "dot"]) (sc := defScope s_show_dots) (by decide +kernel)) sc_show_dots.nd)))
 bm_nil)
theorem ok_show_place (T : Tx K mg) : CalX P w K mg base 1 "show_place" ["here"] (spM K 1 m_show_place) := by
 obtain ⟨f, fd, F, hm, hb⟩ := T.f_show_place.ex
 exact cal_body F hm hb sc_show_place fun cdv A outer s H E hr => (bm_cons (sm_set 1 (em_add (em_add (em_strc T.b_str (em_ix (em_var 0) em_int)) em_str) (em_strc T.b_str (em_ix (em_var 0) em_int))) sc_show_place.nd)
 (bm_cons (sm_if (tm_cmp (cm_gt hr.units (em_ix (em_var 0) em_int) em_int)) (bm_cons (sm_set 1 (em_add (em_add (em_strc T.b_str (em_ix (em_var 0) em_int)) em_str) (em_var 1)) sc_show_place.nd)
 bm_nil) bm_nil)
 (bm_cons (sm_retV 1)
 bm_nil)))
theorem ok_int_of (T : Tx K mg) : CalX P w K mg base 1 "int_of" ["word", "most"] (spM K 2 m_int_of) := by
 obtain ⟨f, fd, F, hm, hb⟩ := T.f_int_of.ex
 exact cal_body F hm hb sc_int_of fun cdv A outer s H E hr => (bm_cons (sm_set 2 (em_startswith (em_var 0) em_str) sc_int_of.nd)
 (bm_cons (sm_set 3 (em_sl (em_var 0) (om_some (em_intc T.b_int (em_var 2))) om_none) sc_int_of.nd)
 (bm_cons (sm_if (WM.tm (wm_or (tm_cmp (cm_eq hr.units (em_var 3) em_str)) (wm_or1 (tm_cmp (cm_gt hr.units (em_len T.b_len (em_var 3)) (em_var 1)))))) (bm_cons (Exists.elim T.c_NoText fun _ t => sm_raise t)
 bm_nil) bm_nil)
 (bm_cons (sm_set 4 em_int sc_int_of.nd)
 (bm_cons (sm_for (passes_of rfl) (gm_name 5 sc_int_of.nd) (im_val (em_var 3)) (show BM _ _ m_int_of_b1 from (bm_cons (sm_if (tm_cmp (cm_ninS (room65 hr) (em_var 5) (em_gstr T.g_DIGITS))) (bm_cons (Exists.elim T.c_NoText fun _ t => sm_raise t)
 bm_nil) bm_nil)
 (bm_cons (sm_set 4 (em_add (em_mul em_int (em_var 4)) (em_index (em_gstr T.g_DIGITS) (em_var 5))) sc_int_of.nd)
 bm_nil))))
 (show BM _ _ m_int_of_r1 from (bm_cons (sm_if (tm_val (em_var 2)) (bm_cons (sm_set 4 (em_sub em_int (em_var 4)) sc_int_of.nd)
 bm_nil) bm_nil)
 (bm_cons (sm_if (tm_cmp (cm_ne hr.units (em_strc T.b_str (em_var 4)) (em_var 0))) (bm_cons (Exists.elim T.c_NoText fun _ t => sm_raise t)
 bm_nil) bm_nil)
 (bm_cons (sm_retV 4)
 bm_nil)))))))))
theorem ok_read_dot (T : Tx K mg) : CalX P w K mg base 2 "read_dot" ["word"] (spM K 1 m_read_dot) := by
 obtain ⟨f, fd, F, hm, hb⟩ := T.f_read_dot.ex
 exact cal_body F hm hb sc_read_dot fun cdv A outer s H E hr => (bm_cons (sm_asg (em_partition (em_sl (em_var 0) (om_some em_int) om_none) em_str) (gm_tup (gsm_cons (gm_name 1 sc_read_dot.nd) (gsm_cons (gm_name 2 sc_read_dot.nd) (gsm_cons (gm_name 3 sc_read_dot.nd) gsm_nil)))))
 (bm_cons (sm_asg (em_partition (em_var 3) em_str) (gm_tup (gsm_cons (gm_name 4 sc_read_dot.nd) (gsm_cons (gm_name 5 sc_read_dot.nd) (gsm_cons (gm_name 6 sc_read_dot.nd) gsm_nil)))))
 (bm_cons (sm_if (WM.tm (wm_or (tm_cmp (cm_ninT (room65 hr) (em_sl (em_var 0) om_none (om_some em_int)) (em_tup (am_cons em_str (am_cons em_str (am_cons em_str am_nil)))))) (wm_or1 (tm_cmp (cm_eq hr.units (em_var 2) em_str))))) (bm_cons (Exists.elim T.c_NoText fun _ t => sm_raise t)
 bm_nil) bm_nil)
 (show BM _ _ m_read_dot_r2 from (bm_cons (sm_set 7 em_int sc_read_dot.nd)
 (bm_cons (sm_if (tm_cmp (cm_eq hr.units (em_var 5) em_str)) (bm_cons (sm_set 7 (em_call (ok_int_of T) (hr.mono (by decide)) (am_cons (em_var 6) (am_cons em_int am_nil))) sc_read_dot.nd)
 (bm_cons (sm_if (tm_cmp (cm_lt hr.units (em_var 7) em_int)) (bm_cons (Exists.elim T.c_NoText fun _ t => sm_raise t)
 bm_nil) bm_nil)
 bm_nil)) bm_nil)
 (show BM _ _ m_read_dot_r1 from (bm_cons (sm_ret (em_tupE (am_cons (em_call (ok_int_of T) (hr.mono (by decide)) (am_cons (em_var 1) (am_cons em_int am_nil))) (am_cons (em_call (ok_int_of T) (hr.mono (by decide)) (am_cons (em_var 4) (am_cons em_int am_nil))) (am_cons (em_index (em_gstr T.g_LETTERS) (em_ix (em_var 0) em_int)) (am_cons (em_var 7) am_nil)))) (ra_cons (re_of (em_call (ok_int_of T) (hr.mono (by decide)) (am_cons (em_var 1) (am_cons em_int am_nil)))) (em_call (ok_int_of T) (hr.mono (by decide)) (am_cons (em_var 1) (am_cons em_int am_nil))) (ra_cons (re_of (em_call (ok_int_of T) (hr.mono (by decide)) (am_cons (em_var 4) (am_cons em_int am_nil)))) (em_call (ok_int_of T) (hr.mono (by decide)) (am_cons (em_var 4) (am_cons em_int am_nil))) (ra_cons re_none (em_index (em_gstr T.g_LETTERS) (em_ix (em_var 0) em_int)) (ra_cons re_none (em_var 7) ra_nil))))))
 bm_nil))))))))
theorem ok_read_place (T : Tx K mg) : CalX P w K mg base 4 "read_place" ["text"] (spM K 1 m_read_place) := by
 obtain ⟨f, fd, F, hm, hb⟩ := T.f_read_place.ex
 exact cal_body F hm hb sc_read_place fun cdv A outer s H E hr => (bm_cons (sm_if (tm_not (tm_val (em_isi (n := "str") T.b_str (by decide +kernel) (by simp) T.b_isinstance (em_var 0)))) (bm_cons (Exists.elim T.c_NoText fun _ t => sm_raise t)
 bm_nil) bm_nil)
 (show BM _ _ m_read_place_r3 from (bm_cons (sm_asg (em_partition (em_var 0) em_str) (gm_tup (gsm_cons (gm_name 1 sc_read_place.nd) (gsm_cons (gm_name 2 sc_read_place.nd) (gsm_cons (gm_name 3 sc_read_place.nd) gsm_nil)))))
 (bm_cons (sm_if (tm_cmp (cm_eq hr.units (em_var 2) em_str)) (bm_cons (sm_par 1 3 (am_cons em_str (am_cons (em_var 0) am_nil)) sc_read_place.nd)
 bm_nil) bm_nil)
 (show BM _ _ m_read_place_r2 from (bm_cons (sm_asg (em_partition (em_var 3) em_str) (gm_tup (gsm_cons (gm_name 4 sc_read_place.nd) (gsm_cons (gm_name 5 sc_read_place.nd) (gsm_cons (gm_name 6 sc_read_place.nd) gsm_nil)))))
 (bm_cons (sm_ifE (rw_or rt_none (tm_cmp (cm_eq hr.units (em_var 5) em_str)) (rw_or1 (rt_cmp (re_of (em_call (ok_int_of T) (hr.mono (by decide)) (am_cons (em_var 1) (am_cons em_int am_nil))))))).rt (WM.tm (wm_or (tm_cmp (cm_eq hr.units (em_var 5) em_str)) (wm_or1 (tm_cmp (cm_eq hr.units (em_call (ok_int_of T) (hr.mono (by decide)) (am_cons (em_var 1) (am_cons em_int am_nil))) em_int))))) (bm_cons (Exists.elim T.c_NoText fun _ t => sm_raise t)
 bm_nil) bm_nil)
 (show BM _ _ m_read_place_r1 from (bm_cons (sm_set 7 (em_callE (ok_place T) (hr.mono (by decide)) (am_cons (em_call (ok_int_of T) (hr.mono (by decide)) (am_cons (em_var 1) (am_cons em_int am_nil))) (am_cons (em_call (ok_int_of T) (hr.mono (by decide)) (am_cons (em_var 4) (am_cons em_int am_nil))) (am_cons (em_call (ok_int_of T) (hr.mono (by decide)) (am_cons (em_var 6) (am_cons em_int am_nil))) am_nil))) (ra_cons (re_of (em_call (ok_int_of T) (hr.mono (by decide)) (am_cons (em_var 1) (am_cons em_int am_nil)))) (em_call (ok_int_of T) (hr.mono (by decide)) (am_cons (em_var 1) (am_cons em_int am_nil))) (ra_cons (re_of (em_call (ok_int_of T) (hr.mono (by decide)) (am_cons (em_var 4) (am_cons em_int am_nil)))) (em_call (ok_int_of T) (hr.mono (by decide)) (am_cons (em_var 4) (am_cons em_int am_nil))) (ra_cons (re_of (em_call (ok_int_of T) (hr.mono (by decide)) (am_cons (em_var 6) (am_cons em_int am_nil)))) (em_call (ok_int_of T) (hr.mono (by decide)) (am_cons (em_var 6) (am_cons em_int am_nil))) ra_nil)))) sc_read_place.nd)
 (bm_cons (sm_if (tm_cmp (cm_ne hr.units (em_call (ok_show_place T) (hr.mono (by decide)) (am_cons (em_var 7) am_nil)) (em_var 0))) (bm_cons (Exists.elim T.c_NoText fun _ t => sm_raise t)
 bm_nil) bm_nil)
 (bm_cons (sm_retV 7)
 bm_nil)))))))))))
theorem ok_kinds_behind (T : Tx K mg) : CalX P w K mg base 1 "kinds_behind" ["verb"] (spM K 1 m_kinds_behind) := by
 obtain ⟨f, fd, F, hm, hb⟩ := T.f_kinds_behind.ex
 exact cal_body F hm hb sc_kinds_behind fun cdv A outer s H E hr => (bm_cons (sm_if (tm_cmp (cm_eq hr.units (em_var 0) em_str)) (bm_cons (sm_ret (em_lst (am_cons em_str am_nil)))
 bm_nil) bm_nil)
 (show BM _ _ m_kinds_behind_r5 from (bm_cons (sm_if (tm_cmp (cm_eq hr.units (em_var 0) em_str)) (bm_cons (sm_ret (em_lst (am_cons em_str am_nil)))
 bm_nil) bm_nil)
 (show BM _ _ m_kinds_behind_r4 from (bm_cons (sm_if (tm_cmp (cm_eq hr.units (em_var 0) em_str)) (bm_cons (sm_ret (em_rep (em_lst (am_cons em_str am_nil)) em_int))
 bm_nil) bm_nil)
 (show BM _ _ m_kinds_behind_r3 from (bm_cons (sm_if (tm_cmp (cm_eq hr.units (em_var 0) em_str)) (bm_cons (sm_ret (em_rep (em_lst (am_cons em_str am_nil)) em_int))
 bm_nil) bm_nil)
 (show BM _ _ m_kinds_behind_r2 from (bm_cons (sm_if (WM.tm (wm_or (tm_cmp (cm_eq hr.units (em_var 0) em_str)) (wm_or1 (tm_cmp (cm_eq hr.units (em_var 0) em_str))))) (bm_cons (sm_ret (em_lst (am_cons em_str am_nil)))
 bm_nil) bm_nil)
 (show BM _ _ m_kinds_behind_r1 from (bm_cons (sm_if (tm_cmp (cm_inT (room65 hr) (em_var 0) (em_tup (am_cons em_str (am_cons em_str (am_cons em_str (am_cons em_str (am_cons em_str (am_cons em_str (am_cons em_str (am_cons em_str (am_cons em_str am_nil)))))))))))) (bm_cons (sm_ret (em_lst am_nil))
 bm_nil) bm_nil)
 (bm_cons (sm_ret em_non)
 bm_nil))))))))))))
theorem ok_meant (T : Tx K mg) : CalX P w K mg base 5 "meant" ["kind", "word"] (spM K 2 m_meant) := by
 obtain ⟨f, fd, F, hm, hb⟩ := T.f_meant.ex
 exact cal_body F hm hb sc_meant fun cdv A outer s H E hr => (bm_cons (sm_if (tm_cmp (cm_eq hr.units (em_var 0) em_str)) (bm_cons (sm_ret (em_call (ok_read_dot T) (hr.mono (by decide)) (am_cons (em_var 1) am_nil)))
 bm_nil) bm_nil)
 (show BM _ _ m_meant_r3 from (bm_cons (sm_if (tm_cmp (cm_eq hr.units (em_var 0) em_str)) (bm_cons (sm_ret (em_call (ok_int_of T) (hr.mono (by decide)) (am_cons (em_var 1) (am_cons em_int am_nil))))
 bm_nil) bm_nil)
 (show BM _ _ m_meant_r2 from (bm_cons (sm_if (tm_cmp (cm_eq hr.units (em_var 0) em_str)) (bm_cons (sm_ret (em_call (ok_int_of T) (hr.mono (by decide)) (am_cons (em_var 1) (am_cons em_int am_nil))))
 bm_nil) bm_nil)
 (show BM _ _ m_meant_r1 from (bm_cons (sm_if (tm_cmp (cm_eq hr.units (em_var 0) em_str)) (bm_cons (sm_ret (em_call (ok_read_place T) (hr.mono (by decide)) (am_cons (em_var 1) am_nil)))
 bm_nil) bm_nil)
 (bm_cons (sm_for (passes_of rfl) (gm_name 2 sc_meant.nd) (im_range1 T.b_range (em_len T.b_len (em_gstr T.g_LETTERS))) (show BM _ _ m_meant_b1 from (bm_cons (sm_if (tm_cmp (cm_eq hr.units (em_var 1) (em_ix (em_gstr T.g_LETTERS) (em_var 2)))) (bm_cons (sm_retV 2)
 bm_nil) bm_nil)
 bm_nil)))
 (bm_cons (Exists.elim T.c_NoText fun _ t => sm_raise t)
 bm_nil)))))))))
theorem ok_changed (T : Tx K mg) : CalX P w K mg base 6 "changed" ["dots", "verb", "words"] (spM K 3 m_changed) := by
 obtain ⟨f, fd, F, hm, hb⟩ := T.f_changed.ex
 exact cal_body F hm hb sc_changed fun cdv A outer s H E hr => (bm_cons (sm_if (tm_cmp (cm_eq hr.units (em_var 1) em_str)) (bm_cons (sm_ret (em_lst am_nil))
 bm_nil) bm_nil)
 (show BM _ _ m_changed_r3 from (bm_cons (sm_if (tm_cmp (cm_eq hr.units (em_var 1) em_str)) (bm_cons (sm_ret (em_call (ok_sent T) (hr.mono (by decide)) (am_cons (em_var 0) (am_cons (em_tuple T.b_tuple (em_var 2)) am_nil))))
 bm_nil) bm_nil)
 (bm_cons (sm_if (tm_cmp (cm_eq hr.units (em_var 1) em_str)) (show BM _ _ m_changed_i1 from (bm_cons (sm_if (tm_cmp (cm_eq hr.units (em_len T.b_len (em_var 0)) (em_gint T.g_MOST_DOTS_texts))) (bm_cons (Exists.elim T.c_NoDots fun _ t => sm_raise t)
 bm_nil) bm_nil)
 (bm_cons (sm_ret (em_add (em_var 0) (em_lst (am_cons (em_ix (em_var 2) em_int) am_nil))))
 bm_nil))) bm_nil)
 (show BM _ _ m_changed_r2 from (bm_cons (sm_if (WM.tm (wm_or (tm_cmp (cm_lt hr.units (em_ix (em_var 2) em_int) em_int)) (wm_or1 (tm_cmp (cm_ge hr.units (em_ix (em_var 2) em_int) (em_len T.b_len (em_var 0))))))) (bm_cons (Exists.elim T.c_NoSuch fun _ t => sm_raise t)
 bm_nil) bm_nil)
 (show BM _ _ m_changed_r1 from (bm_cons (sm_ret (em_add (em_sl (em_var 0) om_none (om_some (em_ix (em_var 2) em_int))) (em_sl (em_var 0) (om_some (em_add (em_ix (em_var 2) em_int) em_int)) om_none)))
 bm_nil))))))))
theorem ok_told_of_places (T : Tx K mg) : CalX P w K mg base 2 "told_of_places" ["dots", "verb", "words"] (spM K 3 m_told_of_places) := by
 obtain ⟨f, fd, F, hm, hb⟩ := T.f_told_of_places.ex
 exact cal_body F hm hb sc_told_of_places fun cdv A outer s H E hr => (bm_cons (sm_if (tm_cmp (cm_eq hr.units (em_var 1) em_str)) (bm_cons sm_bad
 bm_nil) bm_nil)
 (bm_cons (sm_if (tm_cmp (cm_eq hr.units (em_var 1) em_str)) (bm_cons sm_bad
 bm_nil) bm_nil)
 (show BM _ _ m_told_of_places_r2 from (bm_cons (sm_if (tm_cmp (cm_eq hr.units (em_var 1) em_str)) (bm_cons (sm_set 3 (em_call (ok_deepest T) (hr.mono (by decide)) (am_cons (em_var 0) am_nil)) sc_told_of_places.nd)
 (bm_cons sm_bad
 bm_nil)) bm_nil)
 (show BM _ _ m_told_of_places_r1 from (bm_cons (sm_setLc 5 (own := [("dot", 4)]) (im_val (em_var 0)) ⟨⟨[4], by decide, by rintro _ ⟨s1, H1, c, cl, fp, rfl⟩; exact (gm_name 4 sc_told_of_places.nd)⟩, (by rintro _ ⟨s1, H1, c, cl, fp, rfl⟩; exact tsm_nil), (by rintro _ ⟨s1, H1, c, cl, fp, rfl⟩; exact (em_sl (em_var 4) om_none (om_some em_int)))⟩ (blkOk_by (N := ["dots", "verb", "words", "found", "dot", "spots"]) (sc := defScope s_told_of_places) (by decide +kernel)) sc_told_of_places.nd)
 (bm_cons (sm_if (tm_cmp (cm_eq hr.units (em_var 1) em_str)) (show BM _ _ m_told_of_places_i1 from (bm_cons (sm_ret (em_callE (ok_show_place T) (hr.mono (by decide)) (am_cons (em_ix (em_call (ok_two_groups T) (hr.mono (by decide)) (am_cons (em_var 5) am_nil)) em_int) am_nil) (ra_cons (re_ix (re_of (em_call (ok_two_groups T) (hr.mono (by decide)) (am_cons (em_var 5) am_nil)))) (em_ix (em_call (ok_two_groups T) (hr.mono (by decide)) (am_cons (em_var 5) am_nil)) em_int) ra_nil)))
 bm_nil)) bm_nil)
 (bm_cons (sm_if (tm_cmp (cm_eq hr.units (em_var 1) em_str)) (show BM _ _ m_told_of_places_i2 from (bm_cons (sm_ret (em_callE (ok_show_place T) (hr.mono (by decide)) (am_cons (em_ix (em_call (ok_three_groups T) (hr.mono (by decide)) (am_cons (em_var 5) am_nil)) em_int) am_nil) (ra_cons (re_ix (re_of (em_call (ok_three_groups T) (hr.mono (by decide)) (am_cons (em_var 5) am_nil)))) (em_ix (em_call (ok_three_groups T) (hr.mono (by decide)) (am_cons (em_var 5) am_nil)) em_int) ra_nil)))
 bm_nil)) bm_nil)
 (bm_cons sm_bad
 (bm_cons sm_bad
 (bm_cons sm_bad
 bm_nil)))))))))))
theorem ok_Sheet_init (T : Tx K mg) : KCal P w K mg base 1 "Sheet" ["now", "earlier"] 1 m_Sheet_init mf_Sheet_init :=
 kcal_body T.i_Sheet T.o_Sheet sc_Sheet_init fun cdv A outer s H E f hr => (ini_cons (em_lst am_nil) (ini_cons (em_lst am_nil) ini_nil))
theorem ok_Sheet_undone (T : Tx K mg) : MCalL P w K mg base 1 "Sheet" "undone" 1 m_Sheet_undone :=
 mcalL_body T.h_Sheet_undone T.o_Sheet sc_Sheet_undone fun cdv A outer s H E f hr => (bm_cons (sm_if (tm_cmp (cm_eq hr.units (em_fldG 1 0 T.o_Sheet) (em_lst am_nil))) (bm_cons (Exists.elim T.c_TooFew fun _ t => sm_raise t)
 bm_nil) bm_nil)
 (show BM _ _ m_Sheet_undone_r1 from (bm_cons (sm_fldG 0 0 T.o_Sheet (em_ix (em_fldG 1 0 T.o_Sheet) (em_neg em_int)))
 (bm_cons (sm_fldG 1 0 T.o_Sheet (em_sl (em_fldG 1 0 T.o_Sheet) om_none (om_some (em_neg em_int))))
 bm_nil))))
theorem ok_Sheet_done (T : Tx K mg) : MCalL P w K mg base 7 "Sheet" "done" 3 m_Sheet_done :=
 mcalL_body T.h_Sheet_done T.o_Sheet sc_Sheet_done fun cdv A outer s H E f hr => (bm_cons (sm_set 3 (em_call (ok_changed T) (hr.mono (by decide)) (am_cons (em_fldG 0 0 T.o_Sheet) (am_cons (em_var 1) (am_cons (em_var 2) am_nil)))) sc_Sheet_done.nd)
 (bm_cons (sm_fldG 1 0 T.o_Sheet (em_sl (em_add (em_fldG 1 0 T.o_Sheet) (em_lst (am_cons (em_fldG 0 0 T.o_Sheet) am_nil))) (om_some (em_sub em_int (em_gint T.g_REMEMBERED))) om_none))
 (bm_cons (sm_fldG 0 0 T.o_Sheet (em_var 3))
 bm_nil)))
theorem ok_Sheet_ask (T : Tx K mg) : MCalL P w K mg base 8 "Sheet" "ask" 2 m_Sheet_ask :=
 mcalL_body T.h_Sheet_ask T.o_Sheet sc_Sheet_ask fun cdv A outer s H E f hr => (bm_cons (sm_if (tm_not (tm_val (em_isi (n := "str") T.b_str (by decide +kernel) (by simp) T.b_isinstance (em_var 1)))) (bm_cons (Exists.elim T.c_NoAsk fun _ t => sm_raise t)
 bm_nil) bm_nil)
 (show BM _ _ m_Sheet_ask_r5 from (bm_cons (sm_set 2 (em_split (em_var 1) em_str) sc_Sheet_ask.nd)
 (bm_cons (sm_set 3 (em_ix (em_var 2) em_int) sc_Sheet_ask.nd)
 (bm_cons (sm_set 4 (em_call (ok_kinds_behind T) (hr.mono (by decide)) (am_cons (em_var 3) am_nil)) sc_Sheet_ask.nd)
 (bm_cons (sm_if (WM.tm (wm_or (tm_cmp (cm_isN (em_var 4))) (wm_or1 (tm_cmp (cm_ne hr.units (em_add (em_len T.b_len (em_var 4)) em_int) (em_len T.b_len (em_var 2))))))) (bm_cons (Exists.elim T.c_NoAsk fun _ t => sm_raise t)
 bm_nil) bm_nil)
 (show BM _ _ m_Sheet_ask_r4 from (bm_cons (sm_setLcE 2 (own := [("kind", 5), ("word", 6)]) (im_zipA T.b_zip (em_var 4) (em_sl (em_var 2) (om_some em_int) om_none)) ⟨⟨[5, 6], by decide, by rintro _ ⟨s1, H1, c, cl, fp, xe1, rfl⟩; exact (gm_tup (gsm_cons (gm_name 5 sc_Sheet_ask.nd) (gsm_cons (gm_name 6 sc_Sheet_ask.nd) gsm_nil)))⟩, (by rintro _ ⟨s1, H1, c, cl, fp, xe1, rfl⟩; exact tsm_nil), (by rintro _ ⟨s1, H1, c, cl, fp, xe1, rfl⟩; exact (em_call (ok_meant T) (hr.mono (by decide)) (am_cons (em_var 5) (am_cons (em_var 6) am_nil))))⟩ (blkOk_by (N := ["self", "row", "words", "verb", "kinds", "kind", "word"]) (sc := defScope s_Sheet_ask) (by decide +kernel)) sc_Sheet_ask.nd)
 (bm_cons (sm_if (tm_cmp (cm_inT (room65 hr) (em_var 3) (em_tup (am_cons em_str (am_cons em_str (am_cons em_str (am_cons em_str (am_cons em_str am_nil)))))))) (show BM _ _ m_Sheet_ask_i1 from (bm_cons (sm_if (tm_cmp (cm_eq hr.units (em_var 3) em_str)) (bm_cons (su_drop (eu_meth0 0 (ok_Sheet_undone T) (hr.mono (by decide))))
 bm_nil) (bm_cons (su_drop (eu_meth 0 (ok_Sheet_done T) (hr.mono (by decide)) (am_cons (em_var 3) (am_cons (em_var 2) am_nil))))
 bm_nil))
 (bm_cons (su_retL 1 (eu_of (em_strc T.b_str (em_len T.b_len (em_fldG 0 0 T.o_Sheet)))))
 bm_nil))) bm_nil)
 (show BM _ _ m_Sheet_ask_r3 from (bm_cons (sm_if (tm_cmp (cm_eq hr.units (em_var 3) em_str)) (bm_cons (su_retL 1 (eu_of (em_call (ok_show_dots T) (hr.mono (by decide)) (am_cons (em_fldG 0 0 T.o_Sheet) am_nil))))
 bm_nil) bm_nil)
 (show BM _ _ m_Sheet_ask_r2 from (bm_cons (sm_if (tm_cmp (cm_inT (room65 hr) (em_var 3) (em_tup (am_cons em_str (am_cons em_str (am_cons em_str am_nil)))))) (bm_cons sm_bad
 bm_nil) bm_nil)
 (show BM _ _ m_Sheet_ask_r1 from (bm_cons (su_retL 1 (eu_of (em_call (ok_told_of_places T) (hr.mono (by decide)) (am_cons (em_fldG 0 0 T.o_Sheet) (am_cons (em_var 3) (am_cons (em_var 2) am_nil))))))
 bm_nil)))))))))))))))
theorem ok_law_cell_at (T : Tx K mg) : CalX P w K mg base 1 "_law_cell_at" ["_law_script", "_law_k"] (spM K 2 m_law_cell_at) := by
 obtain ⟨f, fd, F, hm, hb⟩ := T.f_law_cell_at.ex
 exact cal_body F hm hb sc_law_cell_at fun cdv A outer s H E hr => (bm_cons (sm_if (tm_cmp (cm_lt hr.units (em_var 1) (em_len T.b_len (em_var 0)))) (bm_cons (sm_ret (em_ix (em_var 0) (em_var 1)))
 bm_nil) bm_nil)
 (bm_cons (sm_ret em_int)
 bm_nil))
theorem ok_law_stream (T : Tx K mg) : CalX P w K mg base 1 "_law_stream" ["_law_cell", "_law_many"] (spM K 2 m_law_stream) := by
 obtain ⟨f, fd, F, hm, hb⟩ := T.f_law_stream.ex
 exact cal_body F hm hb sc_law_stream fun cdv A outer s H E hr => (bm_cons (sm_setO 2 (em_lst am_nil) sc_law_stream.nd)
 (bm_cons (sm_set 3 (em_add (em_mod (em_var 0) em_int) em_int) sc_law_stream.nd)
 (bm_cons (sm_for (passes_of rfl) (gm_name 4 sc_law_stream.nd) (im_range1 T.b_range (em_var 1)) (show BM _ _ m_law_stream_b1 from (bm_cons (sm_set 3 (em_mod (em_add (em_add (em_mul (em_var 3) em_int) (em_mul (em_var 4) (em_var 4))) em_int) em_int) sc_law_stream.nd)
 (bm_cons (sm_app 2 (em_div (em_var 3) em_int))
 bm_nil))))
 (bm_cons (sm_retV 2)
 bm_nil))))
theorem ok_law_dots (T : Tx K mg) : CalX P w K mg base 2 "_law_dots" ["_law_cell"] (spM K 1 m_law_dots) := by
 obtain ⟨f, fd, F, hm, hb⟩ := T.f_law_dots.ex
 exact cal_body F hm hb sc_law_dots fun cdv A outer s H E hr => (bm_cons (sm_set 1 (em_call (ok_law_stream T) (hr.mono (by decide)) (am_cons (em_var 0) (am_cons em_int am_nil))) sc_law_dots.nd)
 (bm_cons (sm_set 2 (em_ix (em_lst (am_cons em_int (am_cons em_int (am_cons em_int (am_cons em_int (am_cons em_int (am_cons em_int (am_cons em_int (am_cons em_int am_nil))))))))) (em_mod (em_ix (em_var 1) em_int) em_int)) sc_law_dots.nd)
 (bm_cons (sm_setLc 4 (own := [("_law_k", 3)]) (im_range1 T.b_range (em_var 2)) ⟨⟨[3], by decide, by rintro _ ⟨s1, H1, c, cl, fp, rfl⟩; exact (gm_name 3 sc_law_dots.nd)⟩, (by rintro _ ⟨s1, H1, c, cl, fp, rfl⟩; exact tsm_nil), (by rintro _ ⟨s1, H1, c, cl, fp, rfl⟩; exact (em_tup (am_cons (em_sub (em_mod (em_ix (em_var 1) (em_var 3)) em_int) em_int) (am_cons (em_sub (em_mod (em_div (em_ix (em_var 1) (em_var 3)) em_int) em_int) em_int) (am_cons (em_mod (em_div (em_ix (em_var 1) (em_var 3)) em_int) em_int) (am_cons (em_add em_int (em_mod (em_div (em_ix (em_var 1) (em_var 3)) em_int) em_int)) am_nil))))))⟩ (blkOk_by (N := ["_law_cell", "_law_xs", "_law_many", "_law_k", "_law_found"]) (sc := defScope s_law_dots) (by decide +kernel)) sc_law_dots.nd)
 (bm_cons (sm_ret (em_add (em_lst (am_cons (em_tup (am_cons em_int (am_cons (em_ix (em_ix (em_var 4) em_int) em_int) (am_cons (em_ix (em_ix (em_var 4) em_int) em_int) (am_cons (em_ix (em_ix (em_var 4) em_int) em_int) am_nil))))) am_nil)) (em_sl (em_var 4) (om_some em_int) om_none)))
 bm_nil))))
theorem ok_law_word (T : Tx K mg) : CalX P w K mg base 1 "_law_word" ["_law_dot"] (spM K 1 m_law_word) := by
 obtain ⟨f, fd, F, hm, hb⟩ := T.f_law_word.ex
 exact cal_body F hm hb sc_law_word fun cdv A outer s H E hr => (bm_cons (sm_set 1 (em_add (em_add (em_add (em_ix em_str (em_ix (em_var 0) em_int)) (em_strc T.b_str (em_ix (em_var 0) em_int))) em_str) (em_strc T.b_str (em_ix (em_var 0) em_int))) sc_law_word.nd)
 (bm_cons (sm_if (tm_cmp (cm_eq hr.units (em_ix (em_var 0) em_int) em_int)) (bm_cons (sm_retV 1)
 bm_nil) bm_nil)
 (bm_cons (sm_ret (em_add (em_add (em_var 1) em_str) (em_strc T.b_str (em_ix (em_var 0) em_int))))
 bm_nil)))
theorem ok_law_no_asks (T : Tx K mg) : CalX P w K mg base 1 "_law_no_asks" [] (spM K 0 m_law_no_asks) := by
 obtain ⟨f, fd, F, hm, hb⟩ := T.f_law_no_asks.ex
 exact cal_body F hm hb sc_law_no_asks fun cdv A outer s H E hr => (bm_cons (sm_set 0 (em_lst (am_cons em_str (am_cons em_str (am_cons em_str (am_cons em_str (am_cons em_str (am_cons em_str (am_cons em_str (am_cons em_str (am_cons em_str (am_cons em_str (am_cons em_str am_nil)))))))))))) sc_law_no_asks.nd)
 (bm_cons (sm_set 0 (em_add (em_var 0) (em_lst (am_cons em_str (am_cons em_str (am_cons em_str (am_cons em_str (am_cons em_str (am_cons em_str (am_cons em_str (am_cons em_str am_nil)))))))))) sc_law_no_asks.nd)
 (bm_cons (sm_ret (em_add (em_var 0) (em_lst (am_cons em_str (am_cons em_str (am_cons em_str (am_cons em_str (am_cons em_str (am_cons em_str (am_cons em_non (am_cons em_int (am_cons (em_lst (am_cons em_str am_nil)) (am_cons em_bl am_nil)))))))))))))
 bm_nil)))
theorem ok_law_no_texts (T : Tx K mg) : CalX P w K mg base 1 "_law_no_texts" [] (spM K 0 m_law_no_texts) := by
 obtain ⟨f, fd, F, hm, hb⟩ := T.f_law_no_texts.ex
 exact cal_body F hm hb sc_law_no_texts fun cdv A outer s H E hr => (bm_cons (sm_set 0 (em_lst (am_cons em_str (am_cons em_str (am_cons em_str (am_cons em_str (am_cons em_str (am_cons em_str (am_cons em_str (am_cons em_str (am_cons em_str (am_cons em_str am_nil))))))))))) sc_law_no_texts.nd)
 (bm_cons (sm_set 0 (em_add (em_var 0) (em_lst (am_cons em_str (am_cons em_str (am_cons em_str (am_cons em_str (am_cons em_str am_nil))))))) sc_law_no_texts.nd)
 (bm_cons (sm_set 0 (em_add (em_var 0) (em_lst (am_cons em_str (am_cons em_str (am_cons em_str (am_cons em_str (am_cons em_str (am_cons em_str (am_cons em_str (am_cons em_str am_nil)))))))))) sc_law_no_texts.nd)
 (bm_cons (sm_ret (em_add (em_var 0) (em_lst (am_cons em_str (am_cons em_str am_nil)))))
 bm_nil))))
theorem ok_law_deeds (T : Tx K mg) : CalX P w K mg base 1 "_law_deeds" ["_law_many"] (spM K 1 m_law_deeds) := by
 obtain ⟨f, fd, F, hm, hb⟩ := T.f_law_deeds.ex
 exact cal_body F hm hb sc_law_deeds fun cdv A outer s H E hr => (bm_cons (sm_setO 1 (em_lst (am_cons (em_tup (am_cons em_str (am_cons em_int am_nil))) (am_cons (em_tup (am_cons (em_add em_str (em_strc T.b_str (em_var 0))) (am_cons em_int am_nil))) (am_cons (em_tup (am_cons em_str (am_cons em_int am_nil))) (am_cons (em_tup (am_cons em_str (am_cons em_int am_nil))) (am_cons (em_tup (am_cons em_str (am_cons em_int am_nil))) am_nil)))))) sc_law_deeds.nd)
 (bm_cons (sm_setO 1 (em_add (em_var 1) (em_lst (am_cons (em_tup (am_cons em_str (am_cons em_int am_nil))) am_nil))) sc_law_deeds.nd)
 (bm_cons (sm_if (tm_cmp (cm_eq hr.units (em_var 0) em_int)) (bm_cons (sm_app 1 (em_tup (am_cons em_str (am_cons em_int am_nil))))
 bm_nil) bm_nil)
 (show BM _ _ m_law_deeds_r3 from (bm_cons (sm_if (tm_cmp (cm_gt hr.units (em_var 0) em_int)) (bm_cons (sm_app 1 (em_tup (am_cons em_str (am_cons em_int am_nil))))
 bm_nil) bm_nil)
 (show BM _ _ m_law_deeds_r2 from (bm_cons (sm_if (tm_cmp (cm_lt hr.units (em_var 0) em_int)) (bm_cons (sm_app 1 (em_tup (am_cons em_str (am_cons em_int am_nil))))
 bm_nil) bm_nil)
 (show BM _ _ m_law_deeds_r1 from (bm_cons (sm_if (tm_cmp (cm_lt hr.units (em_var 0) em_int)) (bm_cons (sm_app 1 (em_tup (am_cons em_str (am_cons em_int am_nil))))
 bm_nil) bm_nil)
 (bm_cons (sm_retV 1)
 bm_nil))))))))))
theorem ok_law_kinds (T : Tx K mg) : CalX P w K mg base 1 "_law_kinds" ["_law_caught"] (spM K 1 m_law_kinds) := by
 obtain ⟨f, fd, F, hm, hb⟩ := T.f_law_kinds.ex
 exact cal_body F hm hb sc_law_kinds fun cdv A outer s H E hr => (bm_cons (sm_set 1 (em_lst (am_cons (Exists.elim T.c_NoAsk fun _ t => em_isx T.b_isinstance (fun _ _ => ee_cls t.gC) (.own _) (subOk_own T.c_NoAsk t T.s_NoAsk_NoAsk (subOk_own T.c_NoDots t T.s_NoDots_NoAsk (subOk_own T.c_NoLine t T.s_NoLine_NoAsk (subOk_own T.c_NoMap t T.s_NoMap_NoAsk (subOk_own T.c_NoPlace t T.s_NoPlace_NoAsk (subOk_own T.c_NoSuch t T.s_NoSuch_NoAsk (subOk_own T.c_NoText t T.s_NoText_NoAsk (subOk_own T.c_TooFew t T.s_TooFew_NoAsk (subOk_own T.c_TooMany t T.s_TooMany_NoAsk subOk_nil))))))))) (em_var 0)) (am_cons (Exists.elim T.c_NoText fun _ t => em_isx T.b_isinstance (fun _ _ => ee_cls t.gC) (.own _) (subOk_own T.c_NoAsk t T.s_NoAsk_NoText (subOk_own T.c_NoDots t T.s_NoDots_NoText (subOk_own T.c_NoLine t T.s_NoLine_NoText (subOk_own T.c_NoMap t T.s_NoMap_NoText (subOk_own T.c_NoPlace t T.s_NoPlace_NoText (subOk_own T.c_NoSuch t T.s_NoSuch_NoText (subOk_own T.c_NoText t T.s_NoText_NoText (subOk_own T.c_TooFew t T.s_TooFew_NoText (subOk_own T.c_TooMany t T.s_TooMany_NoText subOk_nil))))))))) (em_var 0)) (am_cons (Exists.elim T.c_NoMap fun _ t => em_isx T.b_isinstance (fun _ _ => ee_cls t.gC) (.own _) (subOk_own T.c_NoAsk t T.s_NoAsk_NoMap (subOk_own T.c_NoDots t T.s_NoDots_NoMap (subOk_own T.c_NoLine t T.s_NoLine_NoMap (subOk_own T.c_NoMap t T.s_NoMap_NoMap (subOk_own T.c_NoPlace t T.s_NoPlace_NoMap (subOk_own T.c_NoSuch t T.s_NoSuch_NoMap (subOk_own T.c_NoText t T.s_NoText_NoMap (subOk_own T.c_TooFew t T.s_TooFew_NoMap (subOk_own T.c_TooMany t T.s_TooMany_NoMap subOk_nil))))))))) (em_var 0)) am_nil)))) sc_law_kinds.nd)
 (bm_cons (sm_set 1 (em_add (em_var 1) (em_lst (am_cons (Exists.elim T.c_NoSuch fun _ t => em_isx T.b_isinstance (fun _ _ => ee_cls t.gC) (.own _) (subOk_own T.c_NoAsk t T.s_NoAsk_NoSuch (subOk_own T.c_NoDots t T.s_NoDots_NoSuch (subOk_own T.c_NoLine t T.s_NoLine_NoSuch (subOk_own T.c_NoMap t T.s_NoMap_NoSuch (subOk_own T.c_NoPlace t T.s_NoPlace_NoSuch (subOk_own T.c_NoSuch t T.s_NoSuch_NoSuch (subOk_own T.c_NoText t T.s_NoText_NoSuch (subOk_own T.c_TooFew t T.s_TooFew_NoSuch (subOk_own T.c_TooMany t T.s_TooMany_NoSuch subOk_nil))))))))) (em_var 0)) (am_cons (Exists.elim T.c_NoDots fun _ t => em_isx T.b_isinstance (fun _ _ => ee_cls t.gC) (.own _) (subOk_own T.c_NoAsk t T.s_NoAsk_NoDots (subOk_own T.c_NoDots t T.s_NoDots_NoDots (subOk_own T.c_NoLine t T.s_NoLine_NoDots (subOk_own T.c_NoMap t T.s_NoMap_NoDots (subOk_own T.c_NoPlace t T.s_NoPlace_NoDots (subOk_own T.c_NoSuch t T.s_NoSuch_NoDots (subOk_own T.c_NoText t T.s_NoText_NoDots (subOk_own T.c_TooFew t T.s_TooFew_NoDots (subOk_own T.c_TooMany t T.s_TooMany_NoDots subOk_nil))))))))) (em_var 0)) (am_cons (Exists.elim T.c_TooMany fun _ t => em_isx T.b_isinstance (fun _ _ => ee_cls t.gC) (.own _) (subOk_own T.c_NoAsk t T.s_NoAsk_TooMany (subOk_own T.c_NoDots t T.s_NoDots_TooMany (subOk_own T.c_NoLine t T.s_NoLine_TooMany (subOk_own T.c_NoMap t T.s_NoMap_TooMany (subOk_own T.c_NoPlace t T.s_NoPlace_TooMany (subOk_own T.c_NoSuch t T.s_NoSuch_TooMany (subOk_own T.c_NoText t T.s_NoText_TooMany (subOk_own T.c_TooFew t T.s_TooFew_TooMany (subOk_own T.c_TooMany t T.s_TooMany_TooMany subOk_nil))))))))) (em_var 0)) am_nil))))) sc_law_kinds.nd)
 (bm_cons (sm_ret (em_add (em_var 1) (em_lst (am_cons (Exists.elim T.c_TooFew fun _ t => em_isx T.b_isinstance (fun _ _ => ee_cls t.gC) (.own _) (subOk_own T.c_NoAsk t T.s_NoAsk_TooFew (subOk_own T.c_NoDots t T.s_NoDots_TooFew (subOk_own T.c_NoLine t T.s_NoLine_TooFew (subOk_own T.c_NoMap t T.s_NoMap_TooFew (subOk_own T.c_NoPlace t T.s_NoPlace_TooFew (subOk_own T.c_NoSuch t T.s_NoSuch_TooFew (subOk_own T.c_NoText t T.s_NoText_TooFew (subOk_own T.c_TooFew t T.s_TooFew_TooFew (subOk_own T.c_TooMany t T.s_TooMany_TooFew subOk_nil))))))))) (em_var 0)) (am_cons (Exists.elim T.c_NoPlace fun _ t => em_isx T.b_isinstance (fun _ _ => ee_cls t.gC) (.own _) (subOk_own T.c_NoAsk t T.s_NoAsk_NoPlace (subOk_own T.c_NoDots t T.s_NoDots_NoPlace (subOk_own T.c_NoLine t T.s_NoLine_NoPlace (subOk_own T.c_NoMap t T.s_NoMap_NoPlace (subOk_own T.c_NoPlace t T.s_NoPlace_NoPlace (subOk_own T.c_NoSuch t T.s_NoSuch_NoPlace (subOk_own T.c_NoText t T.s_NoText_NoPlace (subOk_own T.c_TooFew t T.s_TooFew_NoPlace (subOk_own T.c_TooMany t T.s_TooMany_NoPlace subOk_nil))))))))) (em_var 0)) am_nil)))))
 bm_nil)))
theorem ok_law_refused (T : Tx K mg) : CalX P w K mg base 9 "_law_refused" ["_law_sheet", "_law_row", "_law_way"] (spL K 1 3 m_law_refused) := by
 obtain ⟨f, fd, F, hm, hb⟩ := T.f_law_refused.ex
 exact calL_body F hm hb sc_law_refused fun cdv A outer s H E hr => (bm_cons (sm_set 3 em_non sc_law_refused.nd)
 (bm_cons (Exists.elim T.c_PlaneError fun _ t => sm_try 4 t.gC sc_law_refused.nd (caught_cons t T.s_NoAsk_PlaneError (caught_cons t T.s_NoDots_PlaneError (caught_cons t T.s_NoLine_PlaneError (caught_cons t T.s_NoMap_PlaneError (caught_cons t T.s_NoPlace_PlaneError (caught_cons t T.s_NoSuch_PlaneError (caught_cons t T.s_NoText_PlaneError (caught_cons t T.s_TooFew_PlaneError (caught_cons t T.s_TooMany_PlaneError caught_nil))))))))) (fun pn1 xe1 hp1 => (bm_cons (su_drop (eu_meth 0 (ok_Sheet_ask T) (hr.mono (by decide)) (am_cons (em_var 1) am_nil)))
 bm_nil)) (fun a1 pn1 => (bm_cons (sm_set 3 (em_var 4) sc_law_refused.nd)
 bm_nil)))
 (show BM _ _ m_law_refused_r2 from (bm_cons (sm_if (WM.tm (wm_or (tm_cmp (cm_isN (em_var 3))) (wm_or1 (tm_not (tm_val (em_isx T.b_isinstance (fun _ _ => ee_ty T.b_ValueError) (.ty _) (subOk_ve T.c_NoAsk T.v_NoAsk (subOk_ve T.c_NoDots T.v_NoDots (subOk_ve T.c_NoLine T.v_NoLine (subOk_ve T.c_NoMap T.v_NoMap (subOk_ve T.c_NoPlace T.v_NoPlace (subOk_ve T.c_NoSuch T.v_NoSuch (subOk_ve T.c_NoText T.v_NoText (subOk_ve T.c_TooFew T.v_TooFew (subOk_ve T.c_TooMany T.v_TooMany subOk_nil))))))))) (em_var 3))))))) (bm_cons (su_retL 1 (eu_of em_bl))
 bm_nil) bm_nil)
 (show BM _ _ m_law_refused_r1 from (bm_cons (su_retL 1 (eu_of (em_cmp (cm_eq hr.units (em_call (ok_law_kinds T) (hr.mono (by decide)) (am_cons (em_var 3) am_nil)) (em_lc (own := [("_law_k", 5)]) (im_range1 T.b_range em_int) ⟨⟨[5], by decide, by rintro _ ⟨s1, H1, c, cl, fp, rfl⟩; exact (gm_name 5 sc_law_refused.nd)⟩, (by rintro _ ⟨s1, H1, c, cl, fp, rfl⟩; exact tsm_nil), (by rintro _ ⟨s1, H1, c, cl, fp, rfl⟩; exact (em_cmp (cm_eq hr.units (em_var 5) (em_var 2))))⟩ (blkOk_by (N := ["_law_sheet", "_law_row", "_law_way", "_law_caught", "error", "_law_k"]) (sc := defScope s_law_refused) (by decide +kernel)) sc_law_refused.nd)))))
 bm_nil))))))
theorem ok_law_undone (T : Tx K mg) : CalX P w K mg base 10 "_law_undone" ["_law_sheet", "_law_dots_here"] (spL K 1 2 m_law_undone) := by
 obtain ⟨f, fd, F, hm, hb⟩ := T.f_law_undone.ex
 exact calL_body F hm hb sc_law_undone fun cdv A outer s H E hr => (bm_cons (sm_for (passes_of rfl) (gm_name 2 sc_law_undone.nd) (im_range1 T.b_range (em_min2 T.b_min em_int (em_len T.b_len (em_var 1)))) (show BM _ _ m_law_undone_b1 from (bm_cons (su_if (ut_cmp oc_ne (eu_meth 0 (ok_Sheet_ask T) (hr.mono (by decide)) (am_cons em_str am_nil)) (em_strc T.b_str (em_sub (em_sub (em_len T.b_len (em_var 1)) em_int) (em_var 2)))) (bm_cons (su_retL 1 (eu_of em_bl))
 bm_nil) bm_nil)
 bm_nil)))
 (show BM _ _ m_law_undone_r2 from (bm_cons (su_if (ut_not (ut_val (eu_call (ok_law_refused T) (hr.mono (by decide)) (ln_var 0 ln_nil) (au_of (am_cons em_str (am_cons em_int am_nil)))))) (bm_cons (su_retL 1 (eu_of em_bl))
 bm_nil) bm_nil)
 (show BM _ _ m_law_undone_r1 from (bm_cons (su_retL 1 (eu_cmp oc_eq (eu_meth 0 (ok_Sheet_ask T) (hr.mono (by decide)) (am_cons em_str am_nil)) (em_join em_str (em_lc (own := [("_law_dot", 3)]) (im_val (em_sl (em_var 1) om_none (om_some (em_max2 T.b_max em_int (em_sub (em_len T.b_len (em_var 1)) em_int))))) ⟨⟨[3], by decide, by rintro _ ⟨s1, H1, c, cl, fp, rfl⟩; exact (gm_name 3 sc_law_undone.nd)⟩, (by rintro _ ⟨s1, H1, c, cl, fp, rfl⟩; exact tsm_nil), (by rintro _ ⟨s1, H1, c, cl, fp, rfl⟩; exact (em_call (ok_law_word T) (hr.mono (by decide)) (am_cons (em_var 3) am_nil)))⟩ (blkOk_by (N := ["_law_sheet", "_law_dots_here", "_law_k", "_law_dot"]) (sc := defScope s_law_undone) (by decide +kernel)) sc_law_undone.nd))))
 bm_nil)))))
theorem fn_law (T : Tx K mg) {f : Addr} {fd : FuncData} (F : Fun K "law" "law" s_law f fd) : FnOk P w K mg base CX0 11 f fd ["_law_script"] (spLaw K) :=
 law_body F sc_law rfl law_true fun cdv A outer s H E hr => (bm_cons (sm_set 1 (em_call (ok_law_dots T) (hr.mono (by decide)) (am_cons (em_call (ok_law_cell_at T) (hr.mono (by decide)) (am_cons (em_var 0) (am_cons em_int am_nil))) am_nil)) sc_law.nd)
 (bm_cons (sm_set 3 (em_join em_str (em_lc (own := [("_law_dot", 2)]) (im_val (em_var 1)) ⟨⟨[2], by decide, by rintro _ ⟨s1, H1, c, cl, fp, rfl⟩; exact (gm_name 2 sc_law.nd)⟩, (by rintro _ ⟨s1, H1, c, cl, fp, rfl⟩; exact tsm_nil), (by rintro _ ⟨s1, H1, c, cl, fp, rfl⟩; exact (em_call (ok_law_word T) (hr.mono (by decide)) (am_cons (em_var 2) am_nil)))⟩ (blkOk_by (N := ["_law_script", "_law_dots_here", "_law_dot", "_law_text", "_law_row", "_law_some", "_law_sheet", "_law_k", "_law_cell", "_law_way"]) (sc := defScope s_law) (by decide +kernel)) sc_law.nd)) sc_law.nd)
 (bm_cons (sm_set 5 (em_add (em_add (em_lc (own := [("_law_row", 4)]) (im_val (em_call0 (ok_law_no_asks T) (hr.mono (by decide)))) ⟨⟨[4], by decide, by rintro _ ⟨s1, H1, c, cl, fp, rfl⟩; exact (gm_name 4 sc_law.nd)⟩, (by rintro _ ⟨s1, H1, c, cl, fp, rfl⟩; exact tsm_nil), (by rintro _ ⟨s1, H1, c, cl, fp, rfl⟩; exact (em_tup (am_cons (em_var 4) (am_cons em_int am_nil))))⟩ (blkOk_by (N := ["_law_script", "_law_dots_here", "_law_dot", "_law_text", "_law_row", "_law_some", "_law_sheet", "_law_k", "_law_cell", "_law_way"]) (sc := defScope s_law) (by decide +kernel)) sc_law.nd) (em_lc (own := [("_law_row", 4)]) (im_val (em_call0 (ok_law_no_texts T) (hr.mono (by decide)))) ⟨⟨[4], by decide, by rintro _ ⟨s1, H1, c, cl, fp, rfl⟩; exact (gm_name 4 sc_law.nd)⟩, (by rintro _ ⟨s1, H1, c, cl, fp, rfl⟩; exact tsm_nil), (by rintro _ ⟨s1, H1, c, cl, fp, rfl⟩; exact (em_tup (am_cons (em_var 4) (am_cons em_int am_nil))))⟩ (blkOk_by (N := ["_law_script", "_law_dots_here", "_law_dot", "_law_text", "_law_row", "_law_some", "_law_sheet", "_law_k", "_law_cell", "_law_way"]) (sc := defScope s_law) (by decide +kernel)) sc_law.nd)) (em_call (ok_law_deeds T) (hr.mono (by decide)) (am_cons (em_len T.b_len (em_var 1)) am_nil))) sc_law.nd)
 (bm_cons (sm_makeG 6 (ok_Sheet_init T) (hr.mono (by decide)) sc_law.nd)
 (bm_cons (sm_for PassesOwn.never (gm_name 7 sc_law.nd) (im_range1 T.b_range (em_len T.b_len (em_var 1))) (show BM _ _ m_law_b1 from (bm_cons (su_if (ut_cmp oc_ne (eu_meth 6 (ok_Sheet_ask T) (hr.mono (by decide)) (am_cons (em_add em_str (em_call (ok_law_word T) (hr.mono (by decide)) (am_cons (em_ix (em_var 1) (em_var 7)) am_nil))) am_nil)) (em_strc T.b_str (em_add (em_var 7) em_int))) (bm_cons (sm_ret em_bl)
 bm_nil) bm_nil)
 bm_nil)))
 (show BM _ _ m_law_r1 from (bm_cons (sm_for PassesOwn.never (gm_name 8 sc_law.nd) (im_val (em_add (em_lst (am_cons (em_call (ok_law_cell_at T) (hr.mono (by decide)) (am_cons (em_var 0) (am_cons em_int am_nil))) am_nil)) (em_sl (em_var 0) (om_some em_int) (om_some em_int)))) (show BM _ _ m_law_b2 from (bm_cons (sm_asg (em_ix (em_var 5) (em_mod (em_mod (em_mul (em_var 8) em_int) em_int) (em_len T.b_len (em_var 5)))) (gm_tup (gsm_cons (gm_name 4 sc_law.nd) (gsm_cons (gm_name 9 sc_law.nd) gsm_nil))))
 (bm_cons (su_if (WU.tu (wu_or (ut_not (ut_val (eu_call (ok_law_refused T) (hr.mono (by decide)) (ln_var 6 ln_nil) (au_of (am_cons (em_var 4) (am_cons (em_var 9) am_nil)))))) (wu_or1 (ut_cmp oc_ne (eu_meth 6 (ok_Sheet_ask T) (hr.mono (by decide)) (am_cons em_str am_nil)) (em_var 3))))) (bm_cons (sm_ret em_bl)
 bm_nil) bm_nil)
 bm_nil))))
 (bm_cons (su_ret (eu_call (ok_law_undone T) (hr.mono (by decide)) (ln_var 6 ln_nil) (au_of (am_cons (em_var 1) am_nil))))
 bm_nil))))))))
end
end DL
local macro_rules | `(tactic| walk_at "ki") => `(tactic| ((try dsimp only [L2.KOf]); k_is))
local macro_rules | `(tactic| walk_at "kx") => `(tactic| first | ((try dsimp only [L2.KOf]); k_is) | ((try dsimp only [L2.KOf]); k_exc) | rfl)
local macro_rules | `(tactic| walk_at "b0") => `(tactic| exact fun _ _ _ _ _ _ us hl => match us, hl with | [], _ => rfl)
local macro_rules | `(tactic| walk_at "b1") => `(tactic| exact fun _ _ _ _ _ _ us hl => match us, hl with | [_], _ => rfl)
local macro_rules | `(tactic| walk_at "b2") => `(tactic| exact fun _ _ _ _ _ _ us hl => match us, hl with | [_, _], _ => rfl)
local macro_rules | `(tactic| walk_at "b3") => `(tactic| exact fun _ _ _ _ _ _ us hl => match us, hl with | [_, _, _], _ => rfl)
open PySem PySem.W PyProof.Rows
set_option maxHeartbeats 0 in
theorem PySem.Challenge.cw_halvecut_k85_what_a_sheet_refuses_holds : PySem.Challenge.rw_halvecut_k85_what_a_sheet_refuses.Holds := by
 w_on
 refine DL.hdLaw fun said => ?_
 refine DL.hdTop said ?hw ?hc
 case hw => w_witness2
 k_fill
 refine L2.walk_ofL (l := PySem.Challenge.rw_halvecut_k85_what_a_sheet_refuses) (n := 63) (k := 11) (x := "_law_script") (CX := fun _ => L2.CX0) (sp := fun w => DL.spLaw _) rfl (by decide) rfl ⟨rfl, by decide, by decide⟩ (fun w h Y => PySem.W.kIn_of Y) ?F (fun _ _ a ns hl hb _ hS => DL.law_asks hl hb hS) (fun _ _ _ _ _ h => h)
 case F =>
  intro w mg fa h KX G hX hC hmg
  replace hmg : mg "law" = some (.ref fa) := hmg
  have at_is_whole : DL.At (L2.KOf KX) mg "is_whole" DL.s_is_whole ["thing"] := by
   refine' DL.at_mk KX G ?a ?l ?c ?k ?b; (case a => walk_at "ki"); (case l => walk_at "ki"); (case c => walk_at "ki"); (case k => walk_at "ki"); (case b => walk_at "b1")
  have at_common : DL.At (L2.KOf KX) mg "common" DL.s_common ["numbers"] := by
   refine' DL.at_mk KX G ?a ?l ?c ?k ?b; (case a => walk_at "ki"); (case l => walk_at "ki"); (case c => walk_at "ki"); (case k => walk_at "ki"); (case b => walk_at "b1")
  have at_lowest : DL.At (L2.KOf KX) mg "lowest" DL.s_lowest ["numbers"] := by
   refine' DL.at_mk KX G ?a ?l ?c ?k ?b; (case a => walk_at "ki"); (case l => walk_at "ki"); (case c => walk_at "ki"); (case k => walk_at "ki"); (case b => walk_at "b1")
  have at_place : DL.At (L2.KOf KX) mg "place" DL.s_place ["by", "x", "y"] := by
   refine' DL.at_mk KX G ?a ?l ?c ?k ?b; (case a => walk_at "ki"); (case l => walk_at "ki"); (case c => walk_at "ki"); (case k => walk_at "ki"); (case b => walk_at "b3")
  have at_is_near : DL.At (L2.KOf KX) mg "is_near" DL.s_is_near ["thing"] := by
   refine' DL.at_mk KX G ?a ?l ?c ?k ?b; (case a => walk_at "ki"); (case l => walk_at "ki"); (case c => walk_at "ki"); (case k => walk_at "ki"); (case b => walk_at "b1")
  have at_is_dot : DL.At (L2.KOf KX) mg "is_dot" DL.s_is_dot ["row"] := by
   refine' DL.at_mk KX G ?a ?l ?c ?k ?b; (case a => walk_at "ki"); (case l => walk_at "ki"); (case c => walk_at "ki"); (case k => walk_at "ki"); (case b => walk_at "b1")
  have at_made_dots : DL.At (L2.KOf KX) mg "made_dots" DL.s_made_dots ["rows"] := by
   refine' DL.at_mk KX G ?a ?l ?c ?k ?b; (case a => walk_at "ki"); (case l => walk_at "ki"); (case c => walk_at "ki"); (case k => walk_at "ki"); (case b => walk_at "b1")
  have at_ask_map : DL.At (L2.KOf KX) mg "ask_map" DL.s_ask_map ["by_map"] := by
   refine' DL.at_mk KX G ?a ?l ?c ?k ?b; (case a => walk_at "ki"); (case l => walk_at "ki"); (case c => walk_at "ki"); (case k => walk_at "ki"); (case b => walk_at "b1")
  have at_sent : DL.At (L2.KOf KX) mg "sent" DL.s_sent ["dots", "by_map"] := by
   refine' DL.at_mk KX G ?a ?l ?c ?k ?b; (case a => walk_at "ki"); (case l => walk_at "ki"); (case c => walk_at "ki"); (case k => walk_at "ki"); (case b => walk_at "b2")
  have at_two_groups : DL.At (L2.KOf KX) mg "two_groups" DL.s_two_groups ["spots"] := by
   refine' DL.at_mk KX G ?a ?l ?c ?k ?b; (case a => walk_at "ki"); (case l => walk_at "ki"); (case c => walk_at "ki"); (case k => walk_at "ki"); (case b => walk_at "b1")
  have at_three_groups : DL.At (L2.KOf KX) mg "three_groups" DL.s_three_groups ["spots"] := by
   refine' DL.at_mk KX G ?a ?l ?c ?k ?b; (case a => walk_at "ki"); (case l => walk_at "ki"); (case c => walk_at "ki"); (case k => walk_at "ki"); (case b => walk_at "b1")
  have at_deepest : DL.At (L2.KOf KX) mg "deepest" DL.s_deepest ["dots"] := by
   refine' DL.at_mk KX G ?a ?l ?c ?k ?b; (case a => walk_at "ki"); (case l => walk_at "ki"); (case c => walk_at "ki"); (case k => walk_at "ki"); (case b => walk_at "b1")
  have at_show_dot : DL.At (L2.KOf KX) mg "show_dot" DL.s_show_dot ["dot"] := by
   refine' DL.at_mk KX G ?a ?l ?c ?k ?b; (case a => walk_at "ki"); (case l => walk_at "ki"); (case c => walk_at "ki"); (case k => walk_at "ki"); (case b => walk_at "b1")
  have at_show_dots : DL.At (L2.KOf KX) mg "show_dots" DL.s_show_dots ["dots"] := by
   refine' DL.at_mk KX G ?a ?l ?c ?k ?b; (case a => walk_at "ki"); (case l => walk_at "ki"); (case c => walk_at "ki"); (case k => walk_at "ki"); (case b => walk_at "b1")
  have at_show_place : DL.At (L2.KOf KX) mg "show_place" DL.s_show_place ["here"] := by
   refine' DL.at_mk KX G ?a ?l ?c ?k ?b; (case a => walk_at "ki"); (case l => walk_at "ki"); (case c => walk_at "ki"); (case k => walk_at "ki"); (case b => walk_at "b1")
  have at_int_of : DL.At (L2.KOf KX) mg "int_of" DL.s_int_of ["word", "most"] := by
   refine' DL.at_mk KX G ?a ?l ?c ?k ?b; (case a => walk_at "ki"); (case l => walk_at "ki"); (case c => walk_at "ki"); (case k => walk_at "ki"); (case b => walk_at "b2")
  have at_read_dot : DL.At (L2.KOf KX) mg "read_dot" DL.s_read_dot ["word"] := by
   refine' DL.at_mk KX G ?a ?l ?c ?k ?b; (case a => walk_at "ki"); (case l => walk_at "ki"); (case c => walk_at "ki"); (case k => walk_at "ki"); (case b => walk_at "b1")
  have at_read_place : DL.At (L2.KOf KX) mg "read_place" DL.s_read_place ["text"] := by
   refine' DL.at_mk KX G ?a ?l ?c ?k ?b; (case a => walk_at "ki"); (case l => walk_at "ki"); (case c => walk_at "ki"); (case k => walk_at "ki"); (case b => walk_at "b1")
  have at_kinds_behind : DL.At (L2.KOf KX) mg "kinds_behind" DL.s_kinds_behind ["verb"] := by
   refine' DL.at_mk KX G ?a ?l ?c ?k ?b; (case a => walk_at "ki"); (case l => walk_at "ki"); (case c => walk_at "ki"); (case k => walk_at "ki"); (case b => walk_at "b1")
  have at_meant : DL.At (L2.KOf KX) mg "meant" DL.s_meant ["kind", "word"] := by
   refine' DL.at_mk KX G ?a ?l ?c ?k ?b; (case a => walk_at "ki"); (case l => walk_at "ki"); (case c => walk_at "ki"); (case k => walk_at "ki"); (case b => walk_at "b2")
  have at_changed : DL.At (L2.KOf KX) mg "changed" DL.s_changed ["dots", "verb", "words"] := by
   refine' DL.at_mk KX G ?a ?l ?c ?k ?b; (case a => walk_at "ki"); (case l => walk_at "ki"); (case c => walk_at "ki"); (case k => walk_at "ki"); (case b => walk_at "b3")
  have at_told_of_places : DL.At (L2.KOf KX) mg "told_of_places" DL.s_told_of_places ["dots", "verb", "words"] := by
   refine' DL.at_mk KX G ?a ?l ?c ?k ?b; (case a => walk_at "ki"); (case l => walk_at "ki"); (case c => walk_at "ki"); (case k => walk_at "ki"); (case b => walk_at "b3")
  have at_law_cell_at : DL.At (L2.KOf KX) mg "_law_cell_at" DL.s_law_cell_at ["_law_script", "_law_k"] := by
   refine' DL.at_mk KX G ?a ?l ?c ?k ?b; (case a => walk_at "ki"); (case l => walk_at "ki"); (case c => walk_at "ki"); (case k => walk_at "ki"); (case b => walk_at "b2")
  have at_law_stream : DL.At (L2.KOf KX) mg "_law_stream" DL.s_law_stream ["_law_cell", "_law_many"] := by
   refine' DL.at_mk KX G ?a ?l ?c ?k ?b; (case a => walk_at "ki"); (case l => walk_at "ki"); (case c => walk_at "ki"); (case k => walk_at "ki"); (case b => walk_at "b2")
  have at_law_dots : DL.At (L2.KOf KX) mg "_law_dots" DL.s_law_dots ["_law_cell"] := by
   refine' DL.at_mk KX G ?a ?l ?c ?k ?b; (case a => walk_at "ki"); (case l => walk_at "ki"); (case c => walk_at "ki"); (case k => walk_at "ki"); (case b => walk_at "b1")
  have at_law_word : DL.At (L2.KOf KX) mg "_law_word" DL.s_law_word ["_law_dot"] := by
   refine' DL.at_mk KX G ?a ?l ?c ?k ?b; (case a => walk_at "ki"); (case l => walk_at "ki"); (case c => walk_at "ki"); (case k => walk_at "ki"); (case b => walk_at "b1")
  have at_law_no_asks : DL.At (L2.KOf KX) mg "_law_no_asks" DL.s_law_no_asks [] := by
   refine' DL.at_mk KX G ?a ?l ?c ?k ?b; (case a => walk_at "ki"); (case l => walk_at "ki"); (case c => walk_at "ki"); (case k => walk_at "ki"); (case b => walk_at "b0")
  have at_law_no_texts : DL.At (L2.KOf KX) mg "_law_no_texts" DL.s_law_no_texts [] := by
   refine' DL.at_mk KX G ?a ?l ?c ?k ?b; (case a => walk_at "ki"); (case l => walk_at "ki"); (case c => walk_at "ki"); (case k => walk_at "ki"); (case b => walk_at "b0")
  have at_law_deeds : DL.At (L2.KOf KX) mg "_law_deeds" DL.s_law_deeds ["_law_many"] := by
   refine' DL.at_mk KX G ?a ?l ?c ?k ?b; (case a => walk_at "ki"); (case l => walk_at "ki"); (case c => walk_at "ki"); (case k => walk_at "ki"); (case b => walk_at "b1")
  have at_law_kinds : DL.At (L2.KOf KX) mg "_law_kinds" DL.s_law_kinds ["_law_caught"] := by
   refine' DL.at_mk KX G ?a ?l ?c ?k ?b; (case a => walk_at "ki"); (case l => walk_at "ki"); (case c => walk_at "ki"); (case k => walk_at "ki"); (case b => walk_at "b1")
  have at_law_refused : DL.At (L2.KOf KX) mg "_law_refused" DL.s_law_refused ["_law_sheet", "_law_row", "_law_way"] := by
   refine' DL.at_mk KX G ?a ?l ?c ?k ?b; (case a => walk_at "ki"); (case l => walk_at "ki"); (case c => walk_at "ki"); (case k => walk_at "ki"); (case b => walk_at "b3")
  have at_law_undone : DL.At (L2.KOf KX) mg "_law_undone" DL.s_law_undone ["_law_sheet", "_law_dots_here"] := by
   refine' DL.at_mk KX G ?a ?l ?c ?k ?b; (case a => walk_at "ki"); (case l => walk_at "ki"); (case c => walk_at "ki"); (case k => walk_at "ki"); (case b => walk_at "b2")
  have ex_PlaneError : ∃ Cl, DL.ExcT (L2.KOf KX) mg "PlaneError" Cl := by
   refine' ⟨_, DL.exc_mk KX G ?a_0 ?x_0 ?k_0 ?b_0 ?t_0 ?g_0 ?q_0 ?h_0 ?c_0 ?n_0 ?tk_0 ?mr_0⟩
   (case a_0 => walk_at "kx")
   (case x_0 => walk_at "kx")
   (case k_0 => walk_at "kx")
   (case b_0 => walk_at "kx")
   (case t_0 => walk_at "kx")
   (case g_0 => walk_at "kx")
   (case q_0 => walk_at "kx")
   (case h_0 => walk_at "kx")
   (case c_0 => walk_at "kx")
   (case n_0 => walk_at "kx")
   (case tk_0 => walk_at "kx")
   (case mr_0 => walk_at "kx")
  have ex_NoPlace : ∃ Cl, DL.ExcT (L2.KOf KX) mg "NoPlace" Cl := by
   refine' ⟨_, DL.exc_mk KX G ?a_1 ?x_1 ?k_1 ?b_1 ?t_1 ?g_1 ?q_1 ?h_1 ?c_1 ?n_1 ?tk_1 ?mr_1⟩
   (case a_1 => walk_at "kx")
   (case x_1 => walk_at "kx")
   (case k_1 => walk_at "kx")
   (case b_1 => walk_at "kx")
   (case t_1 => walk_at "kx")
   (case g_1 => walk_at "kx")
   (case q_1 => walk_at "kx")
   (case h_1 => walk_at "kx")
   (case c_1 => walk_at "kx")
   (case n_1 => walk_at "kx")
   (case tk_1 => walk_at "kx")
   (case mr_1 => walk_at "kx")
  have ex_NoLine : ∃ Cl, DL.ExcT (L2.KOf KX) mg "NoLine" Cl := by
   refine' ⟨_, DL.exc_mk KX G ?a_2 ?x_2 ?k_2 ?b_2 ?t_2 ?g_2 ?q_2 ?h_2 ?c_2 ?n_2 ?tk_2 ?mr_2⟩
   (case a_2 => walk_at "kx")
   (case x_2 => walk_at "kx")
   (case k_2 => walk_at "kx")
   (case b_2 => walk_at "kx")
   (case t_2 => walk_at "kx")
   (case g_2 => walk_at "kx")
   (case q_2 => walk_at "kx")
   (case h_2 => walk_at "kx")
   (case c_2 => walk_at "kx")
   (case n_2 => walk_at "kx")
   (case tk_2 => walk_at "kx")
   (case mr_2 => walk_at "kx")
  have ex_NoDots : ∃ Cl, DL.ExcT (L2.KOf KX) mg "NoDots" Cl := by
   refine' ⟨_, DL.exc_mk KX G ?a_3 ?x_3 ?k_3 ?b_3 ?t_3 ?g_3 ?q_3 ?h_3 ?c_3 ?n_3 ?tk_3 ?mr_3⟩
   (case a_3 => walk_at "kx")
   (case x_3 => walk_at "kx")
   (case k_3 => walk_at "kx")
   (case b_3 => walk_at "kx")
   (case t_3 => walk_at "kx")
   (case g_3 => walk_at "kx")
   (case q_3 => walk_at "kx")
   (case h_3 => walk_at "kx")
   (case c_3 => walk_at "kx")
   (case n_3 => walk_at "kx")
   (case tk_3 => walk_at "kx")
   (case mr_3 => walk_at "kx")
  have ex_NoMap : ∃ Cl, DL.ExcT (L2.KOf KX) mg "NoMap" Cl := by
   refine' ⟨_, DL.exc_mk KX G ?a_4 ?x_4 ?k_4 ?b_4 ?t_4 ?g_4 ?q_4 ?h_4 ?c_4 ?n_4 ?tk_4 ?mr_4⟩
   (case a_4 => walk_at "kx")
   (case x_4 => walk_at "kx")
   (case k_4 => walk_at "kx")
   (case b_4 => walk_at "kx")
   (case t_4 => walk_at "kx")
   (case g_4 => walk_at "kx")
   (case q_4 => walk_at "kx")
   (case h_4 => walk_at "kx")
   (case c_4 => walk_at "kx")
   (case n_4 => walk_at "kx")
   (case tk_4 => walk_at "kx")
   (case mr_4 => walk_at "kx")
  have ex_TooFew : ∃ Cl, DL.ExcT (L2.KOf KX) mg "TooFew" Cl := by
   refine' ⟨_, DL.exc_mk KX G ?a_5 ?x_5 ?k_5 ?b_5 ?t_5 ?g_5 ?q_5 ?h_5 ?c_5 ?n_5 ?tk_5 ?mr_5⟩
   (case a_5 => walk_at "kx")
   (case x_5 => walk_at "kx")
   (case k_5 => walk_at "kx")
   (case b_5 => walk_at "kx")
   (case t_5 => walk_at "kx")
   (case g_5 => walk_at "kx")
   (case q_5 => walk_at "kx")
   (case h_5 => walk_at "kx")
   (case c_5 => walk_at "kx")
   (case n_5 => walk_at "kx")
   (case tk_5 => walk_at "kx")
   (case mr_5 => walk_at "kx")
  have ex_TooMany : ∃ Cl, DL.ExcT (L2.KOf KX) mg "TooMany" Cl := by
   refine' ⟨_, DL.exc_mk KX G ?a_6 ?x_6 ?k_6 ?b_6 ?t_6 ?g_6 ?q_6 ?h_6 ?c_6 ?n_6 ?tk_6 ?mr_6⟩
   (case a_6 => walk_at "kx")
   (case x_6 => walk_at "kx")
   (case k_6 => walk_at "kx")
   (case b_6 => walk_at "kx")
   (case t_6 => walk_at "kx")
   (case g_6 => walk_at "kx")
   (case q_6 => walk_at "kx")
   (case h_6 => walk_at "kx")
   (case c_6 => walk_at "kx")
   (case n_6 => walk_at "kx")
   (case tk_6 => walk_at "kx")
   (case mr_6 => walk_at "kx")
  have ex_NoSuch : ∃ Cl, DL.ExcT (L2.KOf KX) mg "NoSuch" Cl := by
   refine' ⟨_, DL.exc_mk KX G ?a_7 ?x_7 ?k_7 ?b_7 ?t_7 ?g_7 ?q_7 ?h_7 ?c_7 ?n_7 ?tk_7 ?mr_7⟩
   (case a_7 => walk_at "kx")
   (case x_7 => walk_at "kx")
   (case k_7 => walk_at "kx")
   (case b_7 => walk_at "kx")
   (case t_7 => walk_at "kx")
   (case g_7 => walk_at "kx")
   (case q_7 => walk_at "kx")
   (case h_7 => walk_at "kx")
   (case c_7 => walk_at "kx")
   (case n_7 => walk_at "kx")
   (case tk_7 => walk_at "kx")
   (case mr_7 => walk_at "kx")
  have ex_NoText : ∃ Cl, DL.ExcT (L2.KOf KX) mg "NoText" Cl := by
   refine' ⟨_, DL.exc_mk KX G ?a_8 ?x_8 ?k_8 ?b_8 ?t_8 ?g_8 ?q_8 ?h_8 ?c_8 ?n_8 ?tk_8 ?mr_8⟩
   (case a_8 => walk_at "kx")
   (case x_8 => walk_at "kx")
   (case k_8 => walk_at "kx")
   (case b_8 => walk_at "kx")
   (case t_8 => walk_at "kx")
   (case g_8 => walk_at "kx")
   (case q_8 => walk_at "kx")
   (case h_8 => walk_at "kx")
   (case c_8 => walk_at "kx")
   (case n_8 => walk_at "kx")
   (case tk_8 => walk_at "kx")
   (case mr_8 => walk_at "kx")
  have ex_NoAsk : ∃ Cl, DL.ExcT (L2.KOf KX) mg "NoAsk" Cl := by
   refine' ⟨_, DL.exc_mk KX G ?a_9 ?x_9 ?k_9 ?b_9 ?t_9 ?g_9 ?q_9 ?h_9 ?c_9 ?n_9 ?tk_9 ?mr_9⟩
   (case a_9 => walk_at "kx")
   (case x_9 => walk_at "kx")
   (case k_9 => walk_at "kx")
   (case b_9 => walk_at "kx")
   (case t_9 => walk_at "kx")
   (case g_9 => walk_at "kx")
   (case q_9 => walk_at "kx")
   (case h_9 => walk_at "kx")
   (case c_9 => walk_at "kx")
   (case n_9 => walk_at "kx")
   (case tk_9 => walk_at "kx")
   (case mr_9 => walk_at "kx")
  have g_FAR : ∃ t, mg "FAR" = some (.int 1000000000000 t) := by
   exact He.int_ok KX G (by kernel_rfl)
  have g_HEAVY : ∃ t, mg "HEAVY" = some (.int 1000000000 t) := by
   exact He.int_ok KX G (by kernel_rfl)
  have g_MOST_DOTS_dots : ∃ t, mg "MOST_DOTS_dots" = some (.int 30 t) := by
   first | exact DL.gint_of hX (by first | exact .head _ | exact .tail _ (.head _) | exact .tail _ (.tail _ (.head _)) | exact .tail _ (.tail _ (.tail _ (.head _))) | exact .tail _ (.tail _ (.tail _ (.tail _ (.head _)))) | exact .tail _ (.tail _ (.tail _ (.tail _ (.tail _ (.head _)))))) | exact DL.gcon_of (hC _ _ (by first | rfl | decide +kernel))
  have g_MOST_DEEP : ∃ t, mg "MOST_DEEP" = some (.int 12 t) := by
   first | exact DL.gint_of hX (by first | exact .head _ | exact .tail _ (.head _) | exact .tail _ (.tail _ (.head _)) | exact .tail _ (.tail _ (.tail _ (.head _))) | exact .tail _ (.tail _ (.tail _ (.tail _ (.head _)))) | exact .tail _ (.tail _ (.tail _ (.tail _ (.tail _ (.head _)))))) | exact DL.gcon_of (hC _ _ (by first | rfl | decide +kernel))
  have g_LETTERS : ∃ t, mg "LETTERS" = some (.str "abc" t) := by
   exact DL.scon_of (hC _ _ (by first | rfl | decide +kernel))
  have g_DIGITS : ∃ t, mg "DIGITS" = some (.str "0123456789" t) := by
   exact DL.scon_of (hC _ _ (by first | rfl | decide +kernel))
  have g_MOST_DOTS_texts : ∃ t, mg "MOST_DOTS_texts" = some (.int 30 t) := by
   first | exact DL.gint_of hX (by first | exact .head _ | exact .tail _ (.head _) | exact .tail _ (.tail _ (.head _)) | exact .tail _ (.tail _ (.tail _ (.head _))) | exact .tail _ (.tail _ (.tail _ (.tail _ (.head _)))) | exact .tail _ (.tail _ (.tail _ (.tail _ (.tail _ (.head _)))))) | exact DL.gcon_of (hC _ _ (by first | rfl | decide +kernel))
  have g_REMEMBERED : ∃ t, mg "REMEMBERED" = some (.int 20 t) := by
   first | exact DL.gint_of hX (by first | exact .head _ | exact .tail _ (.head _) | exact .tail _ (.tail _ (.head _)) | exact .tail _ (.tail _ (.tail _ (.head _))) | exact .tail _ (.tail _ (.tail _ (.tail _ (.head _)))) | exact .tail _ (.tail _ (.tail _ (.tail _ (.tail _ (.head _)))))) | exact DL.gcon_of (hC _ _ (by first | rfl | decide +kernel))
  have b_ValueError : mg "ValueError" = none := by
   refine' PySem.W.mg_none_of KX G ?z; (case z => walk_at "ki")
  have b_abs : mg "abs" = none := by
   refine' PySem.W.mg_none_of KX G ?z; (case z => walk_at "ki")
  have b_int : mg "int" = none := by
   refine' PySem.W.mg_none_of KX G ?z; (case z => walk_at "ki")
  have b_isinstance : mg "isinstance" = none := by
   refine' PySem.W.mg_none_of KX G ?z; (case z => walk_at "ki")
  have b_len : mg "len" = none := by
   refine' PySem.W.mg_none_of KX G ?z; (case z => walk_at "ki")
  have b_list : mg "list" = none := by
   refine' PySem.W.mg_none_of KX G ?z; (case z => walk_at "ki")
  have b_max : mg "max" = none := by
   refine' PySem.W.mg_none_of KX G ?z; (case z => walk_at "ki")
  have b_min : mg "min" = none := by
   refine' PySem.W.mg_none_of KX G ?z; (case z => walk_at "ki")
  have b_range : mg "range" = none := by
   refine' PySem.W.mg_none_of KX G ?z; (case z => walk_at "ki")
  have b_set : mg "set" = none := by
   refine' PySem.W.mg_none_of KX G ?z; (case z => walk_at "ki")
  have b_sorted : mg "sorted" = none := by
   refine' PySem.W.mg_none_of KX G ?z; (case z => walk_at "ki")
  have b_str : mg "str" = none := by
   refine' PySem.W.mg_none_of KX G ?z; (case z => walk_at "ki")
  have b_sum : mg "sum" = none := by
   refine' PySem.W.mg_none_of KX G ?z; (case z => walk_at "ki")
  have b_tuple : mg "tuple" = none := by
   refine' PySem.W.mg_none_of KX G ?z; (case z => walk_at "ki")
  have b_zip : mg "zip" = none := by
   refine' PySem.W.mg_none_of KX G ?z; (case z => walk_at "ki")
  have nl : DL.NoLists (L2.KOf KX) := DL.noLists_of (by (try dsimp only [L2.KOf]); kernel_rfl)
  have o_Sheet : DL.OwnT (L2.KOf KX) mg "Sheet" ["now", "earlier"] := by
   refine' DL.own_mk KX G ?a_10 ?pg_10 ?hd_10 ?po_10 ?sa_10 (DL.na_cons ?n0_10 (DL.na_cons ?n1_10 DL.na_nil)) ?ha_10 ?hn_10 ?ht_10 ?hm_10 ?kp_10; (case a_10 => walk_at "ki"); (case pg_10 => walk_at "ki"); (case hd_10 => walk_at "ki"); (case po_10 => walk_at "ki"); (case sa_10 => walk_at "ki"); (case n0_10 => walk_at "ki"); (case n1_10 => walk_at "ki"); (case ha_10 => walk_at "ki"); (case hn_10 => walk_at "ki"); (case ht_10 => walk_at "ki"); (case hm_10 => walk_at "ki"); (case kp_10 => walk_at "ki")
  have i_Sheet : DL.InitAt (L2.KOf KX) "Sheet" "Sheet.__init__" DL.s_Sheet_init ["self"] := by
   refine' DL.init_mk ?a_10 ?mk_10 ?kc_10 ?i_10 ?fn_10 ?l_10 ?c_10 ?k_10 (fun _ _ _ _ _ _ us hl => match us, hl with | [_], _ => rfl); (case a_10 => walk_at "ki"); (case mk_10 => walk_at "ki"); (case kc_10 => walk_at "ki"); (case i_10 => walk_at "ki"); (case fn_10 => walk_at "ki"); (case l_10 => walk_at "ki"); (case c_10 => walk_at "ki"); (case k_10 => walk_at "ki")
  have h_Sheet_undone : DL.MethAt (L2.KOf KX) "Sheet" "undone" "Sheet.undone" DL.s_Sheet_undone ["self"] := by
   refine' DL.meth_mk ?a_11 ?i_11 ?fn_11 ?l_11 ?c_11 ?k_11 (fun _ _ _ _ _ _ us hl => match us, hl with | [_], _ => rfl); (case a_11 => walk_at "ki"); (case i_11 => walk_at "ki"); (case fn_11 => walk_at "ki"); (case l_11 => walk_at "ki"); (case c_11 => walk_at "ki"); (case k_11 => walk_at "ki")
  have h_Sheet_done : DL.MethAt (L2.KOf KX) "Sheet" "done" "Sheet.done" DL.s_Sheet_done ["self", "verb", "words"] := by
   refine' DL.meth_mk ?a_12 ?i_12 ?fn_12 ?l_12 ?c_12 ?k_12 (fun _ _ _ _ _ _ us hl => match us, hl with | [_, _, _], _ => rfl); (case a_12 => walk_at "ki"); (case i_12 => walk_at "ki"); (case fn_12 => walk_at "ki"); (case l_12 => walk_at "ki"); (case c_12 => walk_at "ki"); (case k_12 => walk_at "ki")
  have h_Sheet_ask : DL.MethAt (L2.KOf KX) "Sheet" "ask" "Sheet.ask" DL.s_Sheet_ask ["self", "row"] := by
   refine' DL.meth_mk ?a_13 ?i_13 ?fn_13 ?l_13 ?c_13 ?k_13 (fun _ _ _ _ _ _ us hl => match us, hl with | [_, _], _ => rfl); (case a_13 => walk_at "ki"); (case i_13 => walk_at "ki"); (case fn_13 => walk_at "ki"); (case l_13 => walk_at "ki"); (case c_13 => walk_at "ki"); (case k_13 => walk_at "ki")
  have s_NoAsk_PlaneError : DL.SubT (L2.KOf KX) "NoAsk" "PlaneError" true := by
   refine' DL.subT_mk ?a_14 ?b_14 ?s_14 ?t_14; (case a_14 => walk_at "ki"); (case b_14 => walk_at "ki"); (case s_14 => walk_at "ki"); (case t_14 => walk_at "ki")
  have s_NoAsk_NoAsk : DL.SubT (L2.KOf KX) "NoAsk" "NoAsk" true := by
   refine' DL.subT_mk ?a_15 ?b_15 ?s_15 ?t_15; (case a_15 => walk_at "ki"); (case b_15 => walk_at "ki"); (case s_15 => walk_at "ki"); (case t_15 => walk_at "ki")
  have s_NoAsk_NoText : DL.SubT (L2.KOf KX) "NoAsk" "NoText" false := by
   refine' DL.subT_mk ?a_16 ?b_16 ?s_16 ?t_16; (case a_16 => walk_at "ki"); (case b_16 => walk_at "ki"); (case s_16 => walk_at "ki"); (case t_16 => walk_at "ki")
  have s_NoAsk_NoMap : DL.SubT (L2.KOf KX) "NoAsk" "NoMap" false := by
   refine' DL.subT_mk ?a_17 ?b_17 ?s_17 ?t_17; (case a_17 => walk_at "ki"); (case b_17 => walk_at "ki"); (case s_17 => walk_at "ki"); (case t_17 => walk_at "ki")
  have s_NoAsk_NoSuch : DL.SubT (L2.KOf KX) "NoAsk" "NoSuch" false := by
   refine' DL.subT_mk ?a_18 ?b_18 ?s_18 ?t_18; (case a_18 => walk_at "ki"); (case b_18 => walk_at "ki"); (case s_18 => walk_at "ki"); (case t_18 => walk_at "ki")
  have s_NoAsk_NoDots : DL.SubT (L2.KOf KX) "NoAsk" "NoDots" false := by
   refine' DL.subT_mk ?a_19 ?b_19 ?s_19 ?t_19; (case a_19 => walk_at "ki"); (case b_19 => walk_at "ki"); (case s_19 => walk_at "ki"); (case t_19 => walk_at "ki")
  have s_NoAsk_TooMany : DL.SubT (L2.KOf KX) "NoAsk" "TooMany" false := by
   refine' DL.subT_mk ?a_20 ?b_20 ?s_20 ?t_20; (case a_20 => walk_at "ki"); (case b_20 => walk_at "ki"); (case s_20 => walk_at "ki"); (case t_20 => walk_at "ki")
  have s_NoAsk_TooFew : DL.SubT (L2.KOf KX) "NoAsk" "TooFew" false := by
   refine' DL.subT_mk ?a_21 ?b_21 ?s_21 ?t_21; (case a_21 => walk_at "ki"); (case b_21 => walk_at "ki"); (case s_21 => walk_at "ki"); (case t_21 => walk_at "ki")
  have s_NoAsk_NoPlace : DL.SubT (L2.KOf KX) "NoAsk" "NoPlace" false := by
   refine' DL.subT_mk ?a_22 ?b_22 ?s_22 ?t_22; (case a_22 => walk_at "ki"); (case b_22 => walk_at "ki"); (case s_22 => walk_at "ki"); (case t_22 => walk_at "ki")
  have v_NoAsk : DL.SubV (L2.KOf KX) "NoAsk" := by
   refine' DL.subV_mk ?a_23 ?s_23; (case a_23 => walk_at "ki"); (case s_23 => walk_at "ki")
  have s_NoDots_PlaneError : DL.SubT (L2.KOf KX) "NoDots" "PlaneError" true := by
   refine' DL.subT_mk ?a_24 ?b_24 ?s_24 ?t_24; (case a_24 => walk_at "ki"); (case b_24 => walk_at "ki"); (case s_24 => walk_at "ki"); (case t_24 => walk_at "ki")
  have s_NoDots_NoAsk : DL.SubT (L2.KOf KX) "NoDots" "NoAsk" false := by
   refine' DL.subT_mk ?a_25 ?b_25 ?s_25 ?t_25; (case a_25 => walk_at "ki"); (case b_25 => walk_at "ki"); (case s_25 => walk_at "ki"); (case t_25 => walk_at "ki")
  have s_NoDots_NoText : DL.SubT (L2.KOf KX) "NoDots" "NoText" false := by
   refine' DL.subT_mk ?a_26 ?b_26 ?s_26 ?t_26; (case a_26 => walk_at "ki"); (case b_26 => walk_at "ki"); (case s_26 => walk_at "ki"); (case t_26 => walk_at "ki")
  have s_NoDots_NoMap : DL.SubT (L2.KOf KX) "NoDots" "NoMap" false := by
   refine' DL.subT_mk ?a_27 ?b_27 ?s_27 ?t_27; (case a_27 => walk_at "ki"); (case b_27 => walk_at "ki"); (case s_27 => walk_at "ki"); (case t_27 => walk_at "ki")
  have s_NoDots_NoSuch : DL.SubT (L2.KOf KX) "NoDots" "NoSuch" false := by
   refine' DL.subT_mk ?a_28 ?b_28 ?s_28 ?t_28; (case a_28 => walk_at "ki"); (case b_28 => walk_at "ki"); (case s_28 => walk_at "ki"); (case t_28 => walk_at "ki")
  have s_NoDots_NoDots : DL.SubT (L2.KOf KX) "NoDots" "NoDots" true := by
   refine' DL.subT_mk ?a_29 ?b_29 ?s_29 ?t_29; (case a_29 => walk_at "ki"); (case b_29 => walk_at "ki"); (case s_29 => walk_at "ki"); (case t_29 => walk_at "ki")
  have s_NoDots_TooMany : DL.SubT (L2.KOf KX) "NoDots" "TooMany" false := by
   refine' DL.subT_mk ?a_30 ?b_30 ?s_30 ?t_30; (case a_30 => walk_at "ki"); (case b_30 => walk_at "ki"); (case s_30 => walk_at "ki"); (case t_30 => walk_at "ki")
  have s_NoDots_TooFew : DL.SubT (L2.KOf KX) "NoDots" "TooFew" false := by
   refine' DL.subT_mk ?a_31 ?b_31 ?s_31 ?t_31; (case a_31 => walk_at "ki"); (case b_31 => walk_at "ki"); (case s_31 => walk_at "ki"); (case t_31 => walk_at "ki")
  have s_NoDots_NoPlace : DL.SubT (L2.KOf KX) "NoDots" "NoPlace" false := by
   refine' DL.subT_mk ?a_32 ?b_32 ?s_32 ?t_32; (case a_32 => walk_at "ki"); (case b_32 => walk_at "ki"); (case s_32 => walk_at "ki"); (case t_32 => walk_at "ki")
  have v_NoDots : DL.SubV (L2.KOf KX) "NoDots" := by
   refine' DL.subV_mk ?a_33 ?s_33; (case a_33 => walk_at "ki"); (case s_33 => walk_at "ki")
  have s_NoLine_PlaneError : DL.SubT (L2.KOf KX) "NoLine" "PlaneError" true := by
   refine' DL.subT_mk ?a_34 ?b_34 ?s_34 ?t_34; (case a_34 => walk_at "ki"); (case b_34 => walk_at "ki"); (case s_34 => walk_at "ki"); (case t_34 => walk_at "ki")
  have s_NoLine_NoAsk : DL.SubT (L2.KOf KX) "NoLine" "NoAsk" false := by
   refine' DL.subT_mk ?a_35 ?b_35 ?s_35 ?t_35; (case a_35 => walk_at "ki"); (case b_35 => walk_at "ki"); (case s_35 => walk_at "ki"); (case t_35 => walk_at "ki")
  have s_NoLine_NoText : DL.SubT (L2.KOf KX) "NoLine" "NoText" false := by
   refine' DL.subT_mk ?a_36 ?b_36 ?s_36 ?t_36; (case a_36 => walk_at "ki"); (case b_36 => walk_at "ki"); (case s_36 => walk_at "ki"); (case t_36 => walk_at "ki")
  have s_NoLine_NoMap : DL.SubT (L2.KOf KX) "NoLine" "NoMap" false := by
   refine' DL.subT_mk ?a_37 ?b_37 ?s_37 ?t_37; (case a_37 => walk_at "ki"); (case b_37 => walk_at "ki"); (case s_37 => walk_at "ki"); (case t_37 => walk_at "ki")
  have s_NoLine_NoSuch : DL.SubT (L2.KOf KX) "NoLine" "NoSuch" false := by
   refine' DL.subT_mk ?a_38 ?b_38 ?s_38 ?t_38; (case a_38 => walk_at "ki"); (case b_38 => walk_at "ki"); (case s_38 => walk_at "ki"); (case t_38 => walk_at "ki")
  have s_NoLine_NoDots : DL.SubT (L2.KOf KX) "NoLine" "NoDots" false := by
   refine' DL.subT_mk ?a_39 ?b_39 ?s_39 ?t_39; (case a_39 => walk_at "ki"); (case b_39 => walk_at "ki"); (case s_39 => walk_at "ki"); (case t_39 => walk_at "ki")
  have s_NoLine_TooMany : DL.SubT (L2.KOf KX) "NoLine" "TooMany" false := by
   refine' DL.subT_mk ?a_40 ?b_40 ?s_40 ?t_40; (case a_40 => walk_at "ki"); (case b_40 => walk_at "ki"); (case s_40 => walk_at "ki"); (case t_40 => walk_at "ki")
  have s_NoLine_TooFew : DL.SubT (L2.KOf KX) "NoLine" "TooFew" false := by
   refine' DL.subT_mk ?a_41 ?b_41 ?s_41 ?t_41; (case a_41 => walk_at "ki"); (case b_41 => walk_at "ki"); (case s_41 => walk_at "ki"); (case t_41 => walk_at "ki")
  have s_NoLine_NoPlace : DL.SubT (L2.KOf KX) "NoLine" "NoPlace" false := by
   refine' DL.subT_mk ?a_42 ?b_42 ?s_42 ?t_42; (case a_42 => walk_at "ki"); (case b_42 => walk_at "ki"); (case s_42 => walk_at "ki"); (case t_42 => walk_at "ki")
  have v_NoLine : DL.SubV (L2.KOf KX) "NoLine" := by
   refine' DL.subV_mk ?a_43 ?s_43; (case a_43 => walk_at "ki"); (case s_43 => walk_at "ki")
  have s_NoMap_PlaneError : DL.SubT (L2.KOf KX) "NoMap" "PlaneError" true := by
   refine' DL.subT_mk ?a_44 ?b_44 ?s_44 ?t_44; (case a_44 => walk_at "ki"); (case b_44 => walk_at "ki"); (case s_44 => walk_at "ki"); (case t_44 => walk_at "ki")
  have s_NoMap_NoAsk : DL.SubT (L2.KOf KX) "NoMap" "NoAsk" false := by
   refine' DL.subT_mk ?a_45 ?b_45 ?s_45 ?t_45; (case a_45 => walk_at "ki"); (case b_45 => walk_at "ki"); (case s_45 => walk_at "ki"); (case t_45 => walk_at "ki")
  have s_NoMap_NoText : DL.SubT (L2.KOf KX) "NoMap" "NoText" false := by
   refine' DL.subT_mk ?a_46 ?b_46 ?s_46 ?t_46; (case a_46 => walk_at "ki"); (case b_46 => walk_at "ki"); (case s_46 => walk_at "ki"); (case t_46 => walk_at "ki")
  have s_NoMap_NoMap : DL.SubT (L2.KOf KX) "NoMap" "NoMap" true := by
   refine' DL.subT_mk ?a_47 ?b_47 ?s_47 ?t_47; (case a_47 => walk_at "ki"); (case b_47 => walk_at "ki"); (case s_47 => walk_at "ki"); (case t_47 => walk_at "ki")
  have s_NoMap_NoSuch : DL.SubT (L2.KOf KX) "NoMap" "NoSuch" false := by
   refine' DL.subT_mk ?a_48 ?b_48 ?s_48 ?t_48; (case a_48 => walk_at "ki"); (case b_48 => walk_at "ki"); (case s_48 => walk_at "ki"); (case t_48 => walk_at "ki")
  have s_NoMap_NoDots : DL.SubT (L2.KOf KX) "NoMap" "NoDots" false := by
   refine' DL.subT_mk ?a_49 ?b_49 ?s_49 ?t_49; (case a_49 => walk_at "ki"); (case b_49 => walk_at "ki"); (case s_49 => walk_at "ki"); (case t_49 => walk_at "ki")
  have s_NoMap_TooMany : DL.SubT (L2.KOf KX) "NoMap" "TooMany" false := by
   refine' DL.subT_mk ?a_50 ?b_50 ?s_50 ?t_50; (case a_50 => walk_at "ki"); (case b_50 => walk_at "ki"); (case s_50 => walk_at "ki"); (case t_50 => walk_at "ki")
  have s_NoMap_TooFew : DL.SubT (L2.KOf KX) "NoMap" "TooFew" false := by
   refine' DL.subT_mk ?a_51 ?b_51 ?s_51 ?t_51; (case a_51 => walk_at "ki"); (case b_51 => walk_at "ki"); (case s_51 => walk_at "ki"); (case t_51 => walk_at "ki")
  have s_NoMap_NoPlace : DL.SubT (L2.KOf KX) "NoMap" "NoPlace" false := by
   refine' DL.subT_mk ?a_52 ?b_52 ?s_52 ?t_52; (case a_52 => walk_at "ki"); (case b_52 => walk_at "ki"); (case s_52 => walk_at "ki"); (case t_52 => walk_at "ki")
  have v_NoMap : DL.SubV (L2.KOf KX) "NoMap" := by
   refine' DL.subV_mk ?a_53 ?s_53; (case a_53 => walk_at "ki"); (case s_53 => walk_at "ki")
  have s_NoPlace_PlaneError : DL.SubT (L2.KOf KX) "NoPlace" "PlaneError" true := by
   refine' DL.subT_mk ?a_54 ?b_54 ?s_54 ?t_54; (case a_54 => walk_at "ki"); (case b_54 => walk_at "ki"); (case s_54 => walk_at "ki"); (case t_54 => walk_at "ki")
  have s_NoPlace_NoAsk : DL.SubT (L2.KOf KX) "NoPlace" "NoAsk" false := by
   refine' DL.subT_mk ?a_55 ?b_55 ?s_55 ?t_55; (case a_55 => walk_at "ki"); (case b_55 => walk_at "ki"); (case s_55 => walk_at "ki"); (case t_55 => walk_at "ki")
  have s_NoPlace_NoText : DL.SubT (L2.KOf KX) "NoPlace" "NoText" false := by
   refine' DL.subT_mk ?a_56 ?b_56 ?s_56 ?t_56; (case a_56 => walk_at "ki"); (case b_56 => walk_at "ki"); (case s_56 => walk_at "ki"); (case t_56 => walk_at "ki")
  have s_NoPlace_NoMap : DL.SubT (L2.KOf KX) "NoPlace" "NoMap" false := by
   refine' DL.subT_mk ?a_57 ?b_57 ?s_57 ?t_57; (case a_57 => walk_at "ki"); (case b_57 => walk_at "ki"); (case s_57 => walk_at "ki"); (case t_57 => walk_at "ki")
  have s_NoPlace_NoSuch : DL.SubT (L2.KOf KX) "NoPlace" "NoSuch" false := by
   refine' DL.subT_mk ?a_58 ?b_58 ?s_58 ?t_58; (case a_58 => walk_at "ki"); (case b_58 => walk_at "ki"); (case s_58 => walk_at "ki"); (case t_58 => walk_at "ki")
  have s_NoPlace_NoDots : DL.SubT (L2.KOf KX) "NoPlace" "NoDots" false := by
   refine' DL.subT_mk ?a_59 ?b_59 ?s_59 ?t_59; (case a_59 => walk_at "ki"); (case b_59 => walk_at "ki"); (case s_59 => walk_at "ki"); (case t_59 => walk_at "ki")
  have s_NoPlace_TooMany : DL.SubT (L2.KOf KX) "NoPlace" "TooMany" false := by
   refine' DL.subT_mk ?a_60 ?b_60 ?s_60 ?t_60; (case a_60 => walk_at "ki"); (case b_60 => walk_at "ki"); (case s_60 => walk_at "ki"); (case t_60 => walk_at "ki")
  have s_NoPlace_TooFew : DL.SubT (L2.KOf KX) "NoPlace" "TooFew" false := by
   refine' DL.subT_mk ?a_61 ?b_61 ?s_61 ?t_61; (case a_61 => walk_at "ki"); (case b_61 => walk_at "ki"); (case s_61 => walk_at "ki"); (case t_61 => walk_at "ki")
  have s_NoPlace_NoPlace : DL.SubT (L2.KOf KX) "NoPlace" "NoPlace" true := by
   refine' DL.subT_mk ?a_62 ?b_62 ?s_62 ?t_62; (case a_62 => walk_at "ki"); (case b_62 => walk_at "ki"); (case s_62 => walk_at "ki"); (case t_62 => walk_at "ki")
  have v_NoPlace : DL.SubV (L2.KOf KX) "NoPlace" := by
   refine' DL.subV_mk ?a_63 ?s_63; (case a_63 => walk_at "ki"); (case s_63 => walk_at "ki")
  have s_NoSuch_PlaneError : DL.SubT (L2.KOf KX) "NoSuch" "PlaneError" true := by
   refine' DL.subT_mk ?a_64 ?b_64 ?s_64 ?t_64; (case a_64 => walk_at "ki"); (case b_64 => walk_at "ki"); (case s_64 => walk_at "ki"); (case t_64 => walk_at "ki")
  have s_NoSuch_NoAsk : DL.SubT (L2.KOf KX) "NoSuch" "NoAsk" false := by
   refine' DL.subT_mk ?a_65 ?b_65 ?s_65 ?t_65; (case a_65 => walk_at "ki"); (case b_65 => walk_at "ki"); (case s_65 => walk_at "ki"); (case t_65 => walk_at "ki")
  have s_NoSuch_NoText : DL.SubT (L2.KOf KX) "NoSuch" "NoText" false := by
   refine' DL.subT_mk ?a_66 ?b_66 ?s_66 ?t_66; (case a_66 => walk_at "ki"); (case b_66 => walk_at "ki"); (case s_66 => walk_at "ki"); (case t_66 => walk_at "ki")
  have s_NoSuch_NoMap : DL.SubT (L2.KOf KX) "NoSuch" "NoMap" false := by
   refine' DL.subT_mk ?a_67 ?b_67 ?s_67 ?t_67; (case a_67 => walk_at "ki"); (case b_67 => walk_at "ki"); (case s_67 => walk_at "ki"); (case t_67 => walk_at "ki")
  have s_NoSuch_NoSuch : DL.SubT (L2.KOf KX) "NoSuch" "NoSuch" true := by
   refine' DL.subT_mk ?a_68 ?b_68 ?s_68 ?t_68; (case a_68 => walk_at "ki"); (case b_68 => walk_at "ki"); (case s_68 => walk_at "ki"); (case t_68 => walk_at "ki")
  have s_NoSuch_NoDots : DL.SubT (L2.KOf KX) "NoSuch" "NoDots" false := by
   refine' DL.subT_mk ?a_69 ?b_69 ?s_69 ?t_69; (case a_69 => walk_at "ki"); (case b_69 => walk_at "ki"); (case s_69 => walk_at "ki"); (case t_69 => walk_at "ki")
  have s_NoSuch_TooMany : DL.SubT (L2.KOf KX) "NoSuch" "TooMany" false := by
   refine' DL.subT_mk ?a_70 ?b_70 ?s_70 ?t_70; (case a_70 => walk_at "ki"); (case b_70 => walk_at "ki"); (case s_70 => walk_at "ki"); (case t_70 => walk_at "ki")
  have s_NoSuch_TooFew : DL.SubT (L2.KOf KX) "NoSuch" "TooFew" false := by
   refine' DL.subT_mk ?a_71 ?b_71 ?s_71 ?t_71; (case a_71 => walk_at "ki"); (case b_71 => walk_at "ki"); (case s_71 => walk_at "ki"); (case t_71 => walk_at "ki")
  have s_NoSuch_NoPlace : DL.SubT (L2.KOf KX) "NoSuch" "NoPlace" false := by
   refine' DL.subT_mk ?a_72 ?b_72 ?s_72 ?t_72; (case a_72 => walk_at "ki"); (case b_72 => walk_at "ki"); (case s_72 => walk_at "ki"); (case t_72 => walk_at "ki")
  have v_NoSuch : DL.SubV (L2.KOf KX) "NoSuch" := by
   refine' DL.subV_mk ?a_73 ?s_73; (case a_73 => walk_at "ki"); (case s_73 => walk_at "ki")
  have s_NoText_PlaneError : DL.SubT (L2.KOf KX) "NoText" "PlaneError" true := by
   refine' DL.subT_mk ?a_74 ?b_74 ?s_74 ?t_74; (case a_74 => walk_at "ki"); (case b_74 => walk_at "ki"); (case s_74 => walk_at "ki"); (case t_74 => walk_at "ki")
  have s_NoText_NoAsk : DL.SubT (L2.KOf KX) "NoText" "NoAsk" false := by
   refine' DL.subT_mk ?a_75 ?b_75 ?s_75 ?t_75; (case a_75 => walk_at "ki"); (case b_75 => walk_at "ki"); (case s_75 => walk_at "ki"); (case t_75 => walk_at "ki")
  have s_NoText_NoText : DL.SubT (L2.KOf KX) "NoText" "NoText" true := by
   refine' DL.subT_mk ?a_76 ?b_76 ?s_76 ?t_76; (case a_76 => walk_at "ki"); (case b_76 => walk_at "ki"); (case s_76 => walk_at "ki"); (case t_76 => walk_at "ki")
  have s_NoText_NoMap : DL.SubT (L2.KOf KX) "NoText" "NoMap" false := by
   refine' DL.subT_mk ?a_77 ?b_77 ?s_77 ?t_77; (case a_77 => walk_at "ki"); (case b_77 => walk_at "ki"); (case s_77 => walk_at "ki"); (case t_77 => walk_at "ki")
  have s_NoText_NoSuch : DL.SubT (L2.KOf KX) "NoText" "NoSuch" false := by
   refine' DL.subT_mk ?a_78 ?b_78 ?s_78 ?t_78; (case a_78 => walk_at "ki"); (case b_78 => walk_at "ki"); (case s_78 => walk_at "ki"); (case t_78 => walk_at "ki")
  have s_NoText_NoDots : DL.SubT (L2.KOf KX) "NoText" "NoDots" false := by
   refine' DL.subT_mk ?a_79 ?b_79 ?s_79 ?t_79; (case a_79 => walk_at "ki"); (case b_79 => walk_at "ki"); (case s_79 => walk_at "ki"); (case t_79 => walk_at "ki")
  have s_NoText_TooMany : DL.SubT (L2.KOf KX) "NoText" "TooMany" false := by
   refine' DL.subT_mk ?a_80 ?b_80 ?s_80 ?t_80; (case a_80 => walk_at "ki"); (case b_80 => walk_at "ki"); (case s_80 => walk_at "ki"); (case t_80 => walk_at "ki")
  have s_NoText_TooFew : DL.SubT (L2.KOf KX) "NoText" "TooFew" false := by
   refine' DL.subT_mk ?a_81 ?b_81 ?s_81 ?t_81; (case a_81 => walk_at "ki"); (case b_81 => walk_at "ki"); (case s_81 => walk_at "ki"); (case t_81 => walk_at "ki")
  have s_NoText_NoPlace : DL.SubT (L2.KOf KX) "NoText" "NoPlace" false := by
   refine' DL.subT_mk ?a_82 ?b_82 ?s_82 ?t_82; (case a_82 => walk_at "ki"); (case b_82 => walk_at "ki"); (case s_82 => walk_at "ki"); (case t_82 => walk_at "ki")
  have v_NoText : DL.SubV (L2.KOf KX) "NoText" := by
   refine' DL.subV_mk ?a_83 ?s_83; (case a_83 => walk_at "ki"); (case s_83 => walk_at "ki")
  have s_TooFew_PlaneError : DL.SubT (L2.KOf KX) "TooFew" "PlaneError" true := by
   refine' DL.subT_mk ?a_84 ?b_84 ?s_84 ?t_84; (case a_84 => walk_at "ki"); (case b_84 => walk_at "ki"); (case s_84 => walk_at "ki"); (case t_84 => walk_at "ki")
  have s_TooFew_NoAsk : DL.SubT (L2.KOf KX) "TooFew" "NoAsk" false := by
   refine' DL.subT_mk ?a_85 ?b_85 ?s_85 ?t_85; (case a_85 => walk_at "ki"); (case b_85 => walk_at "ki"); (case s_85 => walk_at "ki"); (case t_85 => walk_at "ki")
  have s_TooFew_NoText : DL.SubT (L2.KOf KX) "TooFew" "NoText" false := by
   refine' DL.subT_mk ?a_86 ?b_86 ?s_86 ?t_86; (case a_86 => walk_at "ki"); (case b_86 => walk_at "ki"); (case s_86 => walk_at "ki"); (case t_86 => walk_at "ki")
  have s_TooFew_NoMap : DL.SubT (L2.KOf KX) "TooFew" "NoMap" false := by
   refine' DL.subT_mk ?a_87 ?b_87 ?s_87 ?t_87; (case a_87 => walk_at "ki"); (case b_87 => walk_at "ki"); (case s_87 => walk_at "ki"); (case t_87 => walk_at "ki")
  have s_TooFew_NoSuch : DL.SubT (L2.KOf KX) "TooFew" "NoSuch" false := by
   refine' DL.subT_mk ?a_88 ?b_88 ?s_88 ?t_88; (case a_88 => walk_at "ki"); (case b_88 => walk_at "ki"); (case s_88 => walk_at "ki"); (case t_88 => walk_at "ki")
  have s_TooFew_NoDots : DL.SubT (L2.KOf KX) "TooFew" "NoDots" false := by
   refine' DL.subT_mk ?a_89 ?b_89 ?s_89 ?t_89; (case a_89 => walk_at "ki"); (case b_89 => walk_at "ki"); (case s_89 => walk_at "ki"); (case t_89 => walk_at "ki")
  have s_TooFew_TooMany : DL.SubT (L2.KOf KX) "TooFew" "TooMany" false := by
   refine' DL.subT_mk ?a_90 ?b_90 ?s_90 ?t_90; (case a_90 => walk_at "ki"); (case b_90 => walk_at "ki"); (case s_90 => walk_at "ki"); (case t_90 => walk_at "ki")
  have s_TooFew_TooFew : DL.SubT (L2.KOf KX) "TooFew" "TooFew" true := by
   refine' DL.subT_mk ?a_91 ?b_91 ?s_91 ?t_91; (case a_91 => walk_at "ki"); (case b_91 => walk_at "ki"); (case s_91 => walk_at "ki"); (case t_91 => walk_at "ki")
  have s_TooFew_NoPlace : DL.SubT (L2.KOf KX) "TooFew" "NoPlace" false := by
   refine' DL.subT_mk ?a_92 ?b_92 ?s_92 ?t_92; (case a_92 => walk_at "ki"); (case b_92 => walk_at "ki"); (case s_92 => walk_at "ki"); (case t_92 => walk_at "ki")
  have v_TooFew : DL.SubV (L2.KOf KX) "TooFew" := by
   refine' DL.subV_mk ?a_93 ?s_93; (case a_93 => walk_at "ki"); (case s_93 => walk_at "ki")
  have s_TooMany_PlaneError : DL.SubT (L2.KOf KX) "TooMany" "PlaneError" true := by
   refine' DL.subT_mk ?a_94 ?b_94 ?s_94 ?t_94; (case a_94 => walk_at "ki"); (case b_94 => walk_at "ki"); (case s_94 => walk_at "ki"); (case t_94 => walk_at "ki")
  have s_TooMany_NoAsk : DL.SubT (L2.KOf KX) "TooMany" "NoAsk" false := by
   refine' DL.subT_mk ?a_95 ?b_95 ?s_95 ?t_95; (case a_95 => walk_at "ki"); (case b_95 => walk_at "ki"); (case s_95 => walk_at "ki"); (case t_95 => walk_at "ki")
  have s_TooMany_NoText : DL.SubT (L2.KOf KX) "TooMany" "NoText" false := by
   refine' DL.subT_mk ?a_96 ?b_96 ?s_96 ?t_96; (case a_96 => walk_at "ki"); (case b_96 => walk_at "ki"); (case s_96 => walk_at "ki"); (case t_96 => walk_at "ki")
  have s_TooMany_NoMap : DL.SubT (L2.KOf KX) "TooMany" "NoMap" false := by
   refine' DL.subT_mk ?a_97 ?b_97 ?s_97 ?t_97; (case a_97 => walk_at "ki"); (case b_97 => walk_at "ki"); (case s_97 => walk_at "ki"); (case t_97 => walk_at "ki")
  have s_TooMany_NoSuch : DL.SubT (L2.KOf KX) "TooMany" "NoSuch" false := by
   refine' DL.subT_mk ?a_98 ?b_98 ?s_98 ?t_98; (case a_98 => walk_at "ki"); (case b_98 => walk_at "ki"); (case s_98 => walk_at "ki"); (case t_98 => walk_at "ki")
  have s_TooMany_NoDots : DL.SubT (L2.KOf KX) "TooMany" "NoDots" false := by
   refine' DL.subT_mk ?a_99 ?b_99 ?s_99 ?t_99; (case a_99 => walk_at "ki"); (case b_99 => walk_at "ki"); (case s_99 => walk_at "ki"); (case t_99 => walk_at "ki")
  have s_TooMany_TooMany : DL.SubT (L2.KOf KX) "TooMany" "TooMany" true := by
   refine' DL.subT_mk ?a_100 ?b_100 ?s_100 ?t_100; (case a_100 => walk_at "ki"); (case b_100 => walk_at "ki"); (case s_100 => walk_at "ki"); (case t_100 => walk_at "ki")
  have s_TooMany_TooFew : DL.SubT (L2.KOf KX) "TooMany" "TooFew" false := by
   refine' DL.subT_mk ?a_101 ?b_101 ?s_101 ?t_101; (case a_101 => walk_at "ki"); (case b_101 => walk_at "ki"); (case s_101 => walk_at "ki"); (case t_101 => walk_at "ki")
  have s_TooMany_NoPlace : DL.SubT (L2.KOf KX) "TooMany" "NoPlace" false := by
   refine' DL.subT_mk ?a_102 ?b_102 ?s_102 ?t_102; (case a_102 => walk_at "ki"); (case b_102 => walk_at "ki"); (case s_102 => walk_at "ki"); (case t_102 => walk_at "ki")
  have v_TooMany : DL.SubV (L2.KOf KX) "TooMany" := by
   refine' DL.subV_mk ?a_103 ?s_103; (case a_103 => walk_at "ki"); (case s_103 => walk_at "ki")
  refine' DL.law_mk KX G hmg ?a ?l ?c ?k (fun _ _ _ _ _ _ u => rfl) (fun fd F base => DL.fn_law ⟨at_is_whole, at_common, at_lowest, at_place, at_is_near, at_is_dot, at_made_dots, at_ask_map, at_sent, at_two_groups, at_three_groups, at_deepest, at_show_dot, at_show_dots, at_show_place, at_int_of, at_read_dot, at_read_place, at_kinds_behind, at_meant, at_changed, at_told_of_places, at_law_cell_at, at_law_stream, at_law_dots, at_law_word, at_law_no_asks, at_law_no_texts, at_law_deeds, at_law_kinds, at_law_refused, at_law_undone, ex_PlaneError, ex_NoPlace, ex_NoLine, ex_NoDots, ex_NoMap, ex_TooFew, ex_TooMany, ex_NoSuch, ex_NoText, ex_NoAsk, g_FAR, g_HEAVY, g_MOST_DOTS_dots, g_MOST_DEEP, g_LETTERS, g_DIGITS, g_MOST_DOTS_texts, g_REMEMBERED, b_ValueError, b_abs, b_int, b_isinstance, b_len, b_list, b_max, b_min, b_range, b_set, b_sorted, b_str, b_sum, b_tuple, b_zip, nl, o_Sheet, i_Sheet, h_Sheet_undone, h_Sheet_done, h_Sheet_ask, s_NoAsk_PlaneError, s_NoAsk_NoAsk, s_NoAsk_NoText, s_NoAsk_NoMap, s_NoAsk_NoSuch, s_NoAsk_NoDots, s_NoAsk_TooMany, s_NoAsk_TooFew, s_NoAsk_NoPlace, v_NoAsk, s_NoDots_PlaneError, s_NoDots_NoAsk, s_NoDots_NoText, s_NoDots_NoMap, s_NoDots_NoSuch, s_NoDots_NoDots, s_NoDots_TooMany, s_NoDots_TooFew, s_NoDots_NoPlace, v_NoDots, s_NoLine_PlaneError, s_NoLine_NoAsk, s_NoLine_NoText, s_NoLine_NoMap, s_NoLine_NoSuch, s_NoLine_NoDots, s_NoLine_TooMany, s_NoLine_TooFew, s_NoLine_NoPlace, v_NoLine, s_NoMap_PlaneError, s_NoMap_NoAsk, s_NoMap_NoText, s_NoMap_NoMap, s_NoMap_NoSuch, s_NoMap_NoDots, s_NoMap_TooMany, s_NoMap_TooFew, s_NoMap_NoPlace, v_NoMap, s_NoPlace_PlaneError, s_NoPlace_NoAsk, s_NoPlace_NoText, s_NoPlace_NoMap, s_NoPlace_NoSuch, s_NoPlace_NoDots, s_NoPlace_TooMany, s_NoPlace_TooFew, s_NoPlace_NoPlace, v_NoPlace, s_NoSuch_PlaneError, s_NoSuch_NoAsk, s_NoSuch_NoText, s_NoSuch_NoMap, s_NoSuch_NoSuch, s_NoSuch_NoDots, s_NoSuch_TooMany, s_NoSuch_TooFew, s_NoSuch_NoPlace, v_NoSuch, s_NoText_PlaneError, s_NoText_NoAsk, s_NoText_NoText, s_NoText_NoMap, s_NoText_NoSuch, s_NoText_NoDots, s_NoText_TooMany, s_NoText_TooFew, s_NoText_NoPlace, v_NoText, s_TooFew_PlaneError, s_TooFew_NoAsk, s_TooFew_NoText, s_TooFew_NoMap, s_TooFew_NoSuch, s_TooFew_NoDots, s_TooFew_TooMany, s_TooFew_TooFew, s_TooFew_NoPlace, v_TooFew, s_TooMany_PlaneError, s_TooMany_NoAsk, s_TooMany_NoText, s_TooMany_NoMap, s_TooMany_NoSuch, s_TooMany_NoDots, s_TooMany_TooMany, s_TooMany_TooFew, s_TooMany_NoPlace, v_TooMany⟩ F)
  (case a => walk_at "ki")
  (case l => walk_at "ki")
  (case c => walk_at "ki")
  (case k => walk_at "ki")
