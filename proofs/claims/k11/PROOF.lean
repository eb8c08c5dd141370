import PyProof.Rows.All
import Wide.All
import OpenK.AllK
import Wide.FinOn
import HandS.ForMost
import HandS.ForExc
import HandS.IsInst
import HandS.ExcIs
import HandS.ExcValue
import HandS.EndBits
import HandS.Wide
import HandS.Zip
import HandS.TryOnly
import HandS.Deep
import HandS.Style
import HandS.Defaults
import HandS.Text
import HandS.StrMore
import HandS.Replace
import HandS.TupAny
import KE.SortData
import KE.DataCmp
import HandS.TupLen
import KE.GoesEnum
import KE.KDictCopyH
import KE.KDictSum
import KE.DatumOrd
import KE.GoesComp
import HandS.SetFor
import HandS.Strs
import HandS.SortInts
import HandS.SortOrd
import HandS.Conv
import HandS.More
import PySem.Challenge.RW_halvecut_k11_dots_made
set_option Elab.async false
set_option linter.all false
set_option maxRecDepth 100000
namespace DL
open PySem PySem.Spec PyProof.Rows L2

/-- plain data, the heap put aside -/
inductive D where
  | at (v : V)
  | tup (l : List D)
  | lst (l : List D)
  | exc (x : Str)
  | obj (c : Str) (ns : List Str) (l : List D)
  | dct
  | any
/-- the class of that name at the program's top -/
def clsOf (K : PySem.W.Frag) (x : Str) : Option Addr := match PySem.W.nsIn K mainGlobals x with
  | some (some (.ref C)) => some C
  | _ => none
abbrev D.int (i : Int) : D := .at (.int i)
abbrev D.bl (b : Bool) : D := .at (.bl b)
abbrev D.non : D := .at .non
abbrev D.str (x : Str) : D := .at (.str x)
abbrev D.ints (l : List Int) : List D := l.map D.int

/-- an exception object that was caught, of the own class at C -/
def ExF (C a : Addr) : HO := .ext fun h => ∃ (oe : Obj) (vs : Array Value), h.get? a = some oe ∧ Zc (.ref C) none oe ∧ oe.data = .fields vs

mutual
inductive Rep (K : PySem.W.Frag) (H : Hp) : V → D → Prop
  | at (v : V) : Rep K H v (.at v)
  | tup {a : Addr} {xs : List V} {ds : List D} : H a = some (.tup xs) → Reps K H xs ds → Rep K H (.ref a) (.tup ds)
  | lst {a : Addr} {xs : List V} {ds : List D} : SqL K H a xs → Reps K H xs ds → Rep K H (.ref a) (.lst ds)
  | exc {a C : Addr} {x : Str} : clsOf K x = some C → H a = some (ExF C a) → Rep K H (.ref a) (.exc x)
  | obj {a C dx : Addr} {c : Str} {ns : List Str} {xs : List V} {ds : List D} : clsOf K c = some C → H a = some (.ins C dx (ns.zip xs)) → ns.length = xs.length → Reps K H xs ds → Rep K H (.ref a) (.obj c ns ds)
  | dct {a : Addr} {kvs : List (Key × V)} : H a = some (.dK kvs) → Rep K H (.ref a) .dct
  | any {a : Addr} : Rep K H (.ref a) .any
inductive Reps (K : PySem.W.Frag) (H : Hp) : List V → List D → Prop
  | nil : Reps K H [] []
  | cons {v : V} {vs : List V} {d : D} {ds : List D} : Rep K H v d → Reps K H vs ds → Reps K H (v :: vs) (d :: ds)
end

theorem tq {K : PySem.W.Frag} {H : Hp} {a : Addr} {xs : List V} (h : H a = some (.tup xs)) : SqT K H a xs := .inl (.inl h)
theorem Same.seqT {K : PySem.W.Frag} {H H' : Hp} {a : Addr} {xs : List V} (e : Same H H') (h : SqT K H a xs) : SqT K H' a xs := by
  rcases h with (h | ⟨o, h⟩) | h
  · exact .inl (.inl (e _ _ h))
  · exact .inl (.inr ⟨o, e _ _ h⟩)
  · exact .inr h
section
variable {K : PySem.W.Frag} {H H' : Hp}
mutual
theorem Rep.mono (e : Same H H') : ∀ (d : D) {v : V}, Rep K H v d → Rep K H' v d
  | .at w, v, h => by cases h; exact .at _
  | .tup ds, v, h => by
    cases h with
    | tup s r => exact .tup (e _ _ s) (Reps.mono e ds r)
  | .lst ds, v, h => by
    cases h with
    | lst s r => exact .lst (e.seq s) (Reps.mono e ds r)
  | .exc C, v, h => by
    cases h with
    | exc c s => exact .exc c (e _ _ s)
  | .obj c ns ds, v, h => by
    cases h with
    | obj c s l r => exact .obj c (e _ _ s) l (Reps.mono e ds r)
  | .dct, v, h => by
    cases h with
    | dct s => exact .dct (e _ _ s)
  | .any, v, h => by cases h; exact .any
theorem Reps.mono (e : Same H H') : ∀ (ds : List D) {vs : List V}, Reps K H vs ds → Reps K H' vs ds
  | [], _, h => by cases h; exact .nil
  | d :: ds, _, h => by
    cases h with
    | cons r rs => exact .cons (Rep.mono e d r) (Reps.mono e ds rs)
end
theorem Reps.length : ∀ {vs : List V} {ds : List D}, Reps K H vs ds → vs.length = ds.length
  | _, _, .nil => rfl
  | _, _, .cons _ r => congrArg (· + 1) (Reps.length r)
theorem Reps.get : ∀ {vs : List V} {ds : List D} {i : Nat} {d : D}, Reps K H vs ds → ds[i]? = some d → ∃ v, vs[i]? = some v ∧ Rep K H v d
  | _, _, _, _, .nil, e => by simp at e
  | _, _, 0, _, .cons r _, e => by simp at e; subst e; exact ⟨_, rfl, r⟩
  | _, _, i + 1, d, .cons _ r, e => by
    obtain ⟨v, h1, h2⟩ := Reps.get (i := i) (d := d) r (by simpa using e)
    exact ⟨v, by simpa using h1, h2⟩
theorem Reps.append : ∀ {vs ws : List V} {ds es : List D}, Reps K H vs ds → Reps K H ws es → Reps K H (vs ++ ws) (ds ++ es)
  | _, _, _, _, .nil, s => s
  | _, _, _, _, .cons r t, s => .cons r (Reps.append t s)
theorem Reps.take : ∀ (n : Nat) {vs : List V} {ds : List D}, Reps K H vs ds → Reps K H (vs.take n) (ds.take n)
  | 0, _, _, _ => .nil
  | _ + 1, _, _, .nil => .nil
  | n + 1, _, _, .cons r t => .cons r (Reps.take n t)
theorem Reps.drop : ∀ (n : Nat) {vs : List V} {ds : List D}, Reps K H vs ds → Reps K H (vs.drop n) (ds.drop n)
  | 0, _, _, r => r
  | _ + 1, _, _, .nil => .nil
  | n + 1, _, _, .cons _ t => Reps.drop n t
theorem Reps.set : ∀ (i : Nat) {v : V} {d : D} {vs : List V} {ds : List D}, Rep K H v d → Reps K H vs ds → Reps K H (vs.set i v) (ds.set i d)
  | _, _, _, _, _, _, .nil => .nil
  | 0, _, _, _, _, r, .cons _ t => .cons r t
  | i + 1, _, _, _, _, r, .cons q t => .cons q (Reps.set i r t)
theorem Reps.one {vs : List V} {d : D} (h : Reps K H vs [d]) : ∃ v, vs = [v] ∧ Rep K H v d := by
  cases h with
  | cons r t => cases t; exact ⟨_, rfl, r⟩
theorem Reps.ats : ∀ {us : List V} {vs : List V}, Reps K H vs (us.map D.at) → vs = us
  | [], _, h => by cases h; rfl
  | u :: us, _, h => by
    cases h with
    | cons r t =>
      cases r
      rw [Reps.ats t]
theorem Reps.of_ats : ∀ (us : List V), Reps K H us (us.map D.at)
  | [] => .nil
  | u :: us => .cons (.at u) (Reps.of_ats us)
theorem Reps.ints {ns : List Int} {vs : List V} (h : Reps K H vs (D.ints ns)) : vs = ns.map V.int := by
  have e : D.ints ns = (ns.map V.int).map D.at := by simp [D.ints, Function.comp_def]
  rw [e] at h
  exact h.ats
theorem Reps.of_ints (ns : List Int) : Reps K H (ns.map V.int) (D.ints ns) := by
  have e : D.ints ns = (ns.map V.int).map D.at := by simp [D.ints, Function.comp_def]
  rw [e]
  exact .of_ats _
end

/-! ### the state of a body as data -/
/-- pairs of keys (tuples of ints and texts) and data -/
abbrev RepKV (K : PySem.W.Frag) (H : Hp) : List (List Key × V) → List (List Key × D) → Prop := Paired fun p q => p.1 = q.1 ∧ Rep K H p.2 q.2
theorem RepKV.mono {K : PySem.W.Frag} {H H' : Hp} (e : Same H H') {xs : List (List Key × V)} {ds : List (List Key × D)} (h : RepKV K H xs ds) : RepKV K H' xs ds := Paired.mapP h fun _ _ z => ⟨z.1, Rep.mono e _ z.2⟩
/-- kinds of own objects that hold data: a dict with whole numbers as keys, an object of an own class with its fields' names -/
inductive GK where
  | dct (ks : List Int)
  | obj (c : Str) (ns : List Str)
def GForm (K : PySem.W.Frag) : GK → List V → HO → Prop
  | .dct ks, xs, o => ks.length = xs.length ∧ o = .dK ((ks.map Sum.inl).zip xs)
  | .obj c ns, xs, o => ns.length = xs.length ∧ ∃ Cl dx, clsOf K c = some Cl ∧ o = .ins Cl dx (ns.zip xs)
theorem GForm.atT {K : PySem.W.Frag} : ∀ {k : GK} {xs : List V} {o : HO}, GForm K k xs o → ∀ ys, o ≠ .tup ys
  | .dct _, _, _, ⟨_, e⟩ => fun _ z => by rw [e] at z; cases z
  | .obj _ _, _, _, ⟨_, _, _, _, e⟩ => fun _ z => by rw [e] at z; cases z
/-- what a slot holds: nothing known; data; a list (a dict) of this body's own making that nothing else leads to -/
inductive En where
  | no
  | im (d : D)
  | ow (a : Addr) (ds : List D)
  | od (a : Addr) (kvs : List (List Key × D))
  | ot (as : List Addr) (d : D)
  | og (a : Addr) (k : GK) (ds : List D)
abbrev Rho := List En
def En.own : En → List Addr
  | .ow a _ => [a]
  | .od a _ => [a]
  | .ot as _ => as
  | .og a _ _ => [a]
  | _ => []
def ows (ρ : Rho) : List Addr := ρ.flatMap En.own
/-! trees of lists of one's own: W what is seen, H the heap, as: the lists' addresses -/
mutual
def D.noL : D → Bool
  | .at _ => true
  | .tup ds => D.noLs ds
  | .lst _ => false
  | .exc _ => false
  | .obj _ _ _ => false
  | .dct => false
  | .any => false
def D.noLs : List D → Bool
  | [] => true
  | d :: ds => D.noL d && D.noLs ds
end
/-- a list without lists in it -/
def D.isFl : D → Bool
  | .lst l => D.noLs l
  | _ => false
def D.allFl : List D → Bool
  | [] => true
  | d :: ds => D.isFl d && D.allFl ds
mutual
inductive RepT (K : PySem.W.Frag) (W H : Hp) : V → D → List Addr → Prop
  | leaf {v : V} {d : D} (r : Rep K W v d) (n : d.noL = true) : RepT K W H v d []
  | lst {a : Addr} {xs : List V} {ds : List D} {as : List Addr} {na : a ∉ as} {nd : D.allFl ds = true → as.Nodup} (s : H a = some (.lst xs)) (r : RepTs K W H xs ds as) : RepT K W H (.ref a) (.lst ds) (a :: as)
  | tup {a : Addr} {xs : List V} {ds : List D} {as : List Addr} (s : W a = some (.tup xs)) (r : RepTs K W H xs ds as) : RepT K W H (.ref a) (.tup ds) as
inductive RepTs (K : PySem.W.Frag) (W H : Hp) : List V → List D → List Addr → Prop
  | nil : RepTs K W H [] [] []
  | cons {v : V} {d : D} {vs : List V} {ds : List D} {as bs : List Addr} (r : RepT K W H v d as) (t : RepTs K W H vs ds bs) : RepTs K W H (v :: vs) (d :: ds) (as ++ bs)
end
section
variable {K : PySem.W.Frag} {W W' H H' : Hp}
mutual
theorem RepT.mono (e : Same W W') : ∀ (d : D) {v : V} {as : List Addr}, (∀ a ∈ as, H a = H' a) → RepT K W H v d as → RepT K W' H' v d as
  | d, _, _, f, .leaf r n => .leaf (Rep.mono e d r) n
  | .lst ds, _, _, f, .lst (na := na) (nd := nd) s r => .lst (na := na) (nd := nd) (by rw [← f _ List.mem_cons_self]; exact s) (RepTs.mono e ds (fun a h => f a (List.mem_cons_of_mem _ h)) r)
  | .tup ds, _, _, f, .tup s r => .tup (e _ _ s) (RepTs.mono e ds f r)
theorem RepTs.mono (e : Same W W') : ∀ (ds : List D) {vs : List V} {as : List Addr}, (∀ a ∈ as, H a = H' a) → RepTs K W H vs ds as → RepTs K W' H' vs ds as
  | [], _, _, _, .nil => .nil
  | d :: ds, _, _, f, .cons r t => .cons (RepT.mono e d (fun a h => f a (List.mem_append_left _ h)) r) (RepTs.mono e ds (fun a h => f a (List.mem_append_right _ h)) t)
end
mutual
/-- the lists shown: data -/
theorem RepT.rep (e : Same W W') : ∀ (d : D) {v : V} {as : List Addr}, (∀ a ∈ as, W' a = H a) → RepT K W H v d as → Rep K W' v d
  | d, _, _, f, .leaf r n => Rep.mono e d r
  | .lst ds, _, _, f, .lst s r => .lst (.inl (.inl (by rw [f _ List.mem_cons_self]; exact s))) (RepTs.rep e ds (fun a h => f a (List.mem_cons_of_mem _ h)) r)
  | .tup ds, _, _, f, .tup s r => .tup (e _ _ s) (RepTs.rep e ds f r)
theorem RepTs.rep (e : Same W W') : ∀ (ds : List D) {vs : List V} {as : List Addr}, (∀ a ∈ as, W' a = H a) → RepTs K W H vs ds as → Reps K W' vs ds
  | [], _, _, _, .nil => .nil
  | d :: ds, _, _, f, .cons r t => .cons (RepT.rep e d (fun a h => f a (List.mem_append_left _ h)) r) (RepTs.rep e ds (fun a h => f a (List.mem_append_right _ h)) t)
end
mutual
/-- all the addresses are lists -/
theorem RepT.isl : ∀ (d : D) {v : V} {as : List Addr}, RepT K W H v d as → ∀ a ∈ as, ∃ xs, H a = some (.lst xs)
  | d, _, _, .leaf r n => fun a h => absurd h List.not_mem_nil
  | .lst ds, _, _, .lst (xs := xs) s r => fun a h => (List.mem_cons.mp h).elim (fun z => ⟨xs, z ▸ s⟩) fun z => RepTs.isl ds r a z
  | .tup ds, _, _, .tup s r => RepTs.isl ds r
theorem RepTs.isl : ∀ (ds : List D) {vs : List V} {as : List Addr}, RepTs K W H vs ds as → ∀ a ∈ as, ∃ xs, H a = some (.lst xs)
  | [], _, _, .nil => fun a h => absurd h List.not_mem_nil
  | d :: ds, _, _, .cons r t => fun a h => (List.mem_append.mp h).elim (fun z => RepT.isl d r a z) fun z => RepTs.isl ds t a z
end
end
/-- H0: the heap at the entry; G: what of it the arguments lie in; hid: what nobody may lead to -/
structure Ctx where
  H0 : Hp
  G : Hp
  hid : List Addr
/-- a tuple without references -/
def atV : V → Bool
  | .ref _ => false
  | _ => true
theorem GForm.notT {K : PySem.W.Frag} {k : GK} {xs : List V} {o : HO} (h : GForm K k xs o) {f : Option HO → Bool} (hf : ∀ z, f z = true → ∃ ys, z = some (.tup ys)) : f (some o) = false := by
  cases e : f (some o) with
  | false => rfl
  | true =>
    obtain ⟨ys, q⟩ := hf _ e
    exact (h.atT ys (Option.some.inj q)).elim
def atT : Option HO → Bool
  | some (.tup xs) => xs.all atV
  | _ => false
theorem atT_some' {o : Option HO} (h : atT o = true) : ∃ xs, o = some (.tup xs) := by
  unfold atT at h
  split at h
  · exact ⟨_, rfl⟩
  · cases h
theorem atT_some {o : Option HO} (h : atT o = true) : ∃ xs, o = some (.tup xs) := by
  unfold atT at h
  split at h
  · exact ⟨_, rfl⟩
  · cases h
def Ctx.see (C : Ctx) : Hp := fun b => if atT (C.H0 b) = true then C.H0 b else C.G b
/-- what may be led to: the arguments' part and what is new, but the lists of one's own; and all tuples without references -/
def vis (C : Ctx) (o : List Addr) (H : Hp) : Hp := fun b => if (C.H0 b).isSome then C.see b else if (b ∈ o ∨ b ∈ C.hid) ∧ atT (H b) = false then none else H b
theorem see_in {C : Ctx} (g : Same C.G C.H0) : Same C.see C.H0 := fun b x h => by
  unfold Ctx.see at h
  split at h
  · exact h
  · exact g _ _ h
theorem vis_same {C : Ctx} {o : List Addr} {H H' : Hp} (e : Same H H') : Same (vis C o H) (vis C o H') := fun b x h => by
  unfold vis at h ⊢
  split
  · rename_i q; rw [if_pos q] at h; exact h
  · rename_i q
    rw [if_neg q] at h
    split at h
    · cases h
    · rename_i z
      have h' := e _ _ h
      rw [if_neg (by rw [h'] ; rw [h] at z; exact z)]
      exact h'
theorem vis_sub {C : Ctx} {o o' : List Addr} {H : Hp} (e : ∀ b, b ∈ o' → b ∈ o) : Same (vis C o H) (vis C o' H) := fun b x h => by
  unfold vis at h ⊢
  split
  · rename_i q; rw [if_pos q] at h; exact h
  · rename_i q
    rw [if_neg q] at h
    split at h
    · cases h
    · rename_i z
      rw [if_neg fun m => z ⟨m.1.elim (fun y => .inl (e b y)) .inr, m.2⟩]
      exact h
/-- all of it stands in the heap -/
theorem vis_in {C : Ctx} {o : List Addr} {H : Hp} (g : Same C.G C.H0) (s : Same C.H0 H) : Same (vis C o H) H := fun b x h => by
  unfold vis at h
  split at h
  · exact s _ _ (see_in g _ _ h)
  · split at h
    · cases h
    · exact h
/-- tuples without references are seen -/
theorem vis_at_tup {C : Ctx} {o : List Addr} {H : Hp} {a : Addr} {xs : List V} (s : Same C.H0 H) (h : H a = some (.tup xs)) (hx : xs.all atV = true) : vis C o H a = some (.tup xs) := by
  have k : atT (H a) = true := by rw [h]; exact hx
  unfold vis
  cases q : C.H0 a with
  | some y =>
    have e := s _ _ q
    rw [h] at e
    rw [if_pos (show (some y).isSome = true from rfl)]
    unfold Ctx.see
    rw [q, ← e, if_pos (show atT (some (.tup xs)) = true from hx)]
  | none =>
    rw [if_neg (by simp), if_neg (by rw [k]; simp)]
    exact h
/-- what is new is seen -/
theorem vis_at {C : Ctx} {o : List Addr} {H : Hp} {a : Addr} (n0 : C.H0 a = none) (no : a ∉ o) (nh : a ∉ C.hid) : vis C o H a = H a := by
  unfold vis
  rw [n0, if_neg (by simp), if_neg fun z => z.1.elim no nh]
/-- a new object -/
theorem vis_new {C : Ctx} {o : List Addr} {H : Hp} {a : Addr} {x : HO} (n0 : C.H0 a = none) (no : a ∉ o) (nh : a ∉ C.hid) : vis C o (upd H a x) = upd (vis C o H) a x := by
  funext b
  by_cases e : b = a
  · subst e
    rw [upd_same, vis_at n0 no nh, upd_same]
  · rw [upd_ne e]
    unfold vis
    rw [upd_ne e]
/-- one of one's own is changed -/
theorem vis_own {C : Ctx} {o : List Addr} {H : Hp} {a : Addr} {x : HO} (ho : a ∈ o) (h1 : atT (H a) = false) (h2 : atT (some x) = false) : vis C o (upd H a x) = vis C o H := by
  funext b
  by_cases e : b = a
  · subst e
    unfold vis
    rw [upd_same, if_pos (show (b ∈ o ∨ b ∈ C.hid) ∧ atT (some x) = false from ⟨Or.inl ho, h2⟩), if_pos (show (b ∈ o ∨ b ∈ C.hid) ∧ atT (H b) = false from ⟨Or.inl ho, h1⟩)]
  · unfold vis
    rw [upd_ne e]
theorem same_upd {H : Hp} {p : Addr} {o : HO} (h : H p = none) : Same H (upd H p o) := fun b x e => by
  rw [upd_ne (ne_of_none e h)]
  exact e

/-- no two slots own the same -/
def Disj (ρ : Rho) : Prop := ∀ (i j : Nat) (e e' : En) (a : Addr), ρ[i]? = some e → ρ[j]? = some e' → a ∈ e.own → a ∈ e'.own → i = j
structure SRel (K : PySem.W.Frag) (C : Ctx) (H : Hp) (σ : L2.St) (ρ : Rho) : Prop where
  len : σ.length = ρ.length
  gh : Same C.G C.H0
  hh : Same C.H0 H
  nd : Disj ρ
  fr : ∀ a, a ∈ ows ρ ∨ a ∈ C.hid → C.H0 a = none ∧ H a ≠ none
  dj : ∀ a ∈ ows ρ, a ∉ C.hid
  im : ∀ (i : Nat) (d : D), ρ[i]? = some (En.im d) → ∃ v : V, σ[i]? = some (some v) ∧ Rep K (vis C (ows ρ) H) v d
  ow : ∀ (i : Nat) (a : Addr) (ds : List D), ρ[i]? = some (En.ow a ds) → σ[i]? = some (some (V.ref a)) ∧ ∃ xs, H a = some (.lst xs) ∧ Reps K (vis C (ows ρ) H) xs ds
  od : ∀ (i : Nat) (a : Addr) (ds : List (List Key × D)), ρ[i]? = some (En.od a ds) → σ[i]? = some (some (V.ref a)) ∧ ∃ xs, H a = some (.dT xs) ∧ RepKV K (vis C (ows ρ) H) xs ds
  ot : ∀ (i : Nat) (as : List Addr) (d : D), ρ[i]? = some (En.ot as d) → ∃ v : V, σ[i]? = some (some v) ∧ RepT K (vis C (ows ρ) H) H v d as
  og : ∀ (i : Nat) (a : Addr) (k : GK) (ds : List D), ρ[i]? = some (En.og a k ds) → σ[i]? = some (some (V.ref a)) ∧ ∃ xs o, H a = some o ∧ GForm K k xs o ∧ Reps K (vis C (ows ρ) H) xs ds
section
variable {K : PySem.W.Frag} {C : Ctx} {H H' : Hp} {σ : L2.St} {ρ : Rho}
theorem SRel.same (S : SRel K C H σ ρ) (e : Same H H') : SRel K C H' σ ρ :=
  ⟨S.len, S.gh, S.hh.trans e, S.nd, fun a h => ⟨(S.fr a h).1, fun z => (S.fr a h).2 (e.free z)⟩, S.dj, fun i d h => by
    obtain ⟨v, h1, h2⟩ := S.im i d h
    exact ⟨v, h1, Rep.mono (vis_same e) _ h2⟩, fun i a ds h => by
    obtain ⟨h1, xs, h2, h3⟩ := S.ow i a ds h
    exact ⟨h1, xs, e _ _ h2, Reps.mono (vis_same e) _ h3⟩, fun i a ds h => by
    obtain ⟨h1, xs, h2, h3⟩ := S.od i a ds h
    exact ⟨h1, xs, e _ _ h2, h3.mono (vis_same e)⟩, fun i as d h => by
    obtain ⟨v, h1, h2⟩ := S.ot i as d h
    exact ⟨v, h1, RepT.mono (vis_same e) _ (fun a ha => by
      obtain ⟨xs, q⟩ := RepT.isl _ h2 a ha
      rw [q]
      exact (e _ _ q).symm) h2⟩, fun i a k ds h => by
    obtain ⟨h1, xs, o, h2, h3, h4⟩ := S.og i a k ds h
    exact ⟨h1, xs, o, e _ _ h2, h3, Reps.mono (vis_same e) _ h4⟩⟩
theorem SRel.visIn (S : SRel K C H σ ρ) : Same (vis C (ows ρ) H) H := vis_in S.gh S.hh
/-- a new address -/
theorem SRel.new (S : SRel K C H σ ρ) {a : Addr} (n : H a = none) : C.H0 a = none ∧ a ∉ ows ρ ∧ a ∉ C.hid :=
  ⟨S.hh.free n, fun z => (S.fr a (.inl z)).2 n, fun z => (S.fr a (.inr z)).2 n⟩
theorem SRel.visNew (S : SRel K C H σ ρ) {a : Addr} {x : HO} (n : H a = none) : vis C (ows ρ) (upd H a x) = upd (vis C (ows ρ) H) a x :=
  let ⟨n0, no, nh⟩ := S.new n
  vis_new n0 no nh
end

/-! ### expressions -/
/-- what is wanted of an expression's run -/
def wpE (X : Cx) (e : Expr) : TE := fun σ H Q => ∀ pins s, Inv X pins σ H s → wpAny (model X.prog X.w) X.A (eval e X.env) (EP X pins σ Q) X.xe s
def wpT (X : Cx) (e : Expr) : TT := fun σ H Q => ∀ pins s, Inv X pins σ H s → wpAny (model X.prog X.w) X.A (isTrue e X.env (eval e X.env)) (TP X pins σ Q) X.xe s
def wpA (X : Cx) (es : List Expr) : TA := fun σ H Q => ∀ (pos : Pos) pins s, Inv X pins σ H s → wpAny (model X.prog X.w) X.A (spliced (backTo pos (starEach es X.env))) (AP X pins σ Q) X.xe s
section
variable {X : Cx}
theorem pe_wp {e : Expr} : PE X e (wpE X e) := ⟨fun pins s _ _ _ I h => h pins s I⟩
theorem pt_wp {e : Expr} : PT X e (wpT X e) := ⟨fun pins s _ _ _ I h => h pins s I⟩
theorem pa_wp {es : List Expr} : PA X es (wpA X es) := ⟨fun pos pins s _ _ _ I h => h pos pins s I⟩
theorem wpE_of {e : Expr} {t : TE} (h : PE X e t) {σ : L2.St} {H : Hp} {Q : VK} (q : t σ H Q) : wpE X e σ H Q := fun pins s I => h.run pins s σ H Q I q
theorem wpT_of {e : Expr} {t : TT} (h : PT X e t) {σ : L2.St} {H : Hp} {Q : Bool → Hp → Prop} (q : t σ H Q) : wpT X e σ H Q := fun pins s I => h.run pins s σ H Q I q
theorem wpA_of {es : List Expr} {t : TA} (h : PA X es t) {σ : L2.St} {H : Hp} {Q : List V → Hp → Prop} (q : t σ H Q) : wpA X es σ H Q := fun pos pins s I => h.run pos pins s σ H Q I q
end
/-- e is evaluated to the data d; nothing that was is changed -/
def EE (X : Cx) (C : Ctx) (ρ : Rho) (e : Expr) (d : D) : Prop :=
  ∀ σ H, SRel X.K C H σ ρ → ∀ Q : VK, (∀ v H', Same H H' → Rep X.K (vis C (ows ρ) H') v d → Q v H') → wpE X e σ H Q
/-- e as a test is c -/
def ET (X : Cx) (C : Ctx) (ρ : Rho) (e : Expr) (c : Bool) : Prop :=
  ∀ σ H, SRel X.K C H σ ρ → ∀ Q : Bool → Hp → Prop, (∀ H', Same H H' → Q c H') → wpT X e σ H Q
/-- an argument list -/
def EA (X : Cx) (C : Ctx) (ρ : Rho) (es : List Expr) (ds : List D) : Prop :=
  ∀ σ H, SRel X.K C H σ ρ → ∀ Q : List V → Hp → Prop, (∀ vs H', Same H H' → Reps X.K (vis C (ows ρ) H') vs ds → Q vs H') → wpA X es σ H Q
/-- e is evaluated to a new list -/
def EF (X : Cx) (C : Ctx) (ρ : Rho) (e : Expr) (ds : List D) : Prop :=
  ∀ σ H, SRel X.K C H σ ρ → ∀ Q : VK, (∀ a xs H', H a = none → Same H H' → H' a = some (.lst xs) → Reps X.K (vis C (a :: ows ρ) H') xs ds → Q (.ref a) H') → wpE X e σ H Q
/-- e is evaluated to a list to be read (perhaps one's own) -/
def EL (X : Cx) (C : Ctx) (ρ : Rho) (e : Expr) (ds : List D) : Prop :=
  ∀ σ H, SRel X.K C H σ ρ → ∀ Q : VK, (∀ a xs H', Same H H' → SqL X.K H' a xs → Reps X.K (vis C (ows ρ) H') xs ds → Q (.ref a) H') → wpE X e σ H Q
section
variable {X : Cx} {C : Ctx} {ρ : Rho} {e a b : Expr} {es : List Expr} {d : D} {ds : List D} {pos : Pos}
theorem EE.eq {d' : D} (h : EE X C ρ e d) (q : d = d') : EE X C ρ e d' := q ▸ h
theorem ET.eq {c c' : Bool} (h : ET X C ρ e c) (q : c = c') : ET X C ρ e c' := q ▸ h
theorem EA.eq {ds' : List D} (h : EA X C ρ es ds) (q : ds = ds') : EA X C ρ es ds' := q ▸ h
theorem EF.eq {ds' : List D} (h : EF X C ρ e ds) (q : ds = ds') : EF X C ρ e ds' := q ▸ h
theorem EL.eq {ds' : List D} (h : EL X C ρ e ds) (q : ds = ds') : EL X C ρ e ds' := q ▸ h
theorem EF.ee (h : EF X C ρ e ds) : EE X C ρ e (.lst ds) := fun σ H S Q q => h σ H S _ fun a xs H' n s l r =>
  q _ _ s (.lst (.inl (.inl (by
    obtain ⟨n0, no, nh⟩ := S.new n
    rw [vis_at n0 no nh]
    exact l))) (Reps.mono (vis_sub fun b hb => List.mem_cons_of_mem _ hb) _ r))
theorem EE.el (h : EE X C ρ e (.lst ds)) : EL X C ρ e ds := fun σ H S Q q => h σ H S _ fun v H' s r => by
  cases r with
  | lst sq rs => exact q _ _ _ s ((S.same s).visIn.seq sq) rs
theorem EF.el (h : EF X C ρ e ds) : EL X C ρ e ds := h.ee.el
theorem el_var (i : Nat) {x : Str} (hN : X.N[i]? = some x := by rfl) {a : Addr} (hr : ρ[i]? = some (.ow a ds) := by rfl) (hv : Vis X.env.scope x := by first | exact Or.inl rfl | exact Or.inr (Or.inl rfl) | exact Or.inr (Or.inr rfl))
    (hd : (x == ("__debug__" : Str)) = false := by decide) (hcd : (x == ("__classdict__" : Str)) = false := by decide) : EL X C ρ (.Name x pos) ds := fun σ H S Q q => by
  obtain ⟨h1, xs, h2, h3⟩ := S.ow i a ds hr
  exact wpE_of (pe_var hN hv hd hcd) ⟨_, h1, q a xs H (Same.refl H) (.inl (.inl h2)) h3⟩
theorem ee_var (i : Nat) {x : Str} (hN : X.N[i]? = some x := by rfl) (hr : ρ[i]? = some (.im d) := by rfl) (hv : Vis X.env.scope x := by first | exact Or.inl rfl | exact Or.inr (Or.inl rfl) | exact Or.inr (Or.inr rfl))
    (hd : (x == ("__debug__" : Str)) = false := by decide) (hcd : (x == ("__classdict__" : Str)) = false := by decide) : EE X C ρ (.Name x pos) d := fun σ H S Q q => by
  obtain ⟨v, h1, h2⟩ := S.im i d hr
  exact wpE_of (pe_var hN hv hd hcd) ⟨_, h1, q v H (Same.refl H) h2⟩
/-- a constant reading -/
theorem ee_c {v : V} (h : PE X e (tC v)) : EE X C ρ e (.at v) := fun σ H S Q q => wpE_of h (q v H (Same.refl H) (.at v))
theorem ee_int {i j} : EE X C ρ (.Constant (.int i) j pos) (.int i) := ee_c pe_int
theorem ee_bl {i j} : EE X C ρ (.Constant (.bool i) j pos) (.bl i) := ee_c pe_bl
theorem ee_non {j} : EE X C ρ (.Constant .none j pos) .non := ee_c pe_non
theorem ee_str {i j} : EE X C ρ (.Constant (.str i) j pos) (.str i) := ee_c pe_str
/-- an operation on two scalars -/
theorem ee_op {op : Operator} {r : R2} {x y z : V} (ho : OpR X (binaryOp op) r) (ha : EE X C ρ a (.at x)) (hb : EE X C ρ b (.at y)) (hr : ∀ H (Q : VK), Q z H → r x y H Q) : EE X C ρ (.BinOp a op b pos) (.at z) := fun σ H S Q q => by
  refine wpE_of (pe_op ho pe_wp pe_wp) (ha σ H S _ fun v H1 s1 r1 => hb σ H1 (S.same s1) _ fun u H2 s2 r2 => ?_)
  cases r1
  cases r2
  exact hr _ _ (q z H2 (s1.trans s2) (.at z))
theorem ee_add {i j : Int} (ha : EE X C ρ a (.int i)) (hb : EE X C ρ b (.int j)) : EE X C ρ (.BinOp a .Add b pos) (.int (i + j)) := ee_op op_add ha hb fun _ _ q => ⟨i, j, rfl, rfl, q⟩
theorem ee_sub {i j : Int} (ha : EE X C ρ a (.int i)) (hb : EE X C ρ b (.int j)) : EE X C ρ (.BinOp a .Sub b pos) (.int (i - j)) := ee_op op_sub ha hb fun _ _ q => ⟨i, j, rfl, rfl, q⟩
end
end DL

namespace DL
open PySem PySem.Spec PyProof.Rows L2

/-! ### sizes -/
structure Sz (n : Nat) (i : Int) : Prop where
  lt : i.natAbs < 2 ^ n
theorem Sz.mono {n m : Nat} {i : Int} (h : Sz n i) (l : n ≤ m) : Sz m i := ⟨Nat.lt_of_lt_of_le h.lt (Nat.pow_le_pow_right (by decide) l)⟩
theorem Sz.self (i : Int) : Sz (i.natAbs.log2 + 1) i := ⟨Nat.lt_log2_self⟩
theorem Sz.ofNat (k : Nat) : Sz (k.log2 + 1) (@OfNat.ofNat Int k _) := ⟨by
  show Int.natAbs ((k : Nat) : Int) < _
  rw [Int.natAbs_natCast]
  exact Nat.lt_log2_self⟩
theorem Sz.add {n m : Nat} {i j : Int} (h : Sz n i) (k : Sz m j) : Sz (max n m + 1) (i + j) := by
  have h1 : i.natAbs < 2 ^ max n m := (h.mono (Nat.le_max_left _ _)).lt
  have h2 : j.natAbs < 2 ^ max n m := (k.mono (Nat.le_max_right _ _)).lt
  refine ⟨?_⟩
  rw [Nat.pow_succ]
  omega
theorem Sz.neg {n : Nat} {i : Int} (h : Sz n i) : Sz n (-i) := ⟨by rw [Int.natAbs_neg]; exact h.lt⟩
theorem Sz.sub {n m : Nat} {i j : Int} (h : Sz n i) (k : Sz m j) : Sz (max n m + 1) (i - j) := by
  rw [Int.sub_eq_add_neg]
  exact h.add k.neg
theorem Sz.mul {n m : Nat} {i j : Int} (h : Sz n i) (k : Sz m j) : Sz (n + m) (i * j) := ⟨wide_lt h.lt k.lt⟩
theorem Sz.emod {m : Nat} {i j : Int} (k : Sz m j) (hj : 0 < j) : Sz m (i % j) := by
  have h0 := Int.emod_nonneg i (Int.ne_of_gt hj)
  have h1 := Int.emod_lt_of_pos i hj
  have k' := k.lt
  exact ⟨by omega⟩
theorem natAbs_ediv_le (i j : Int) (hj : 0 < j) : (i / j).natAbs ≤ i.natAbs := by
  by_cases h : 0 ≤ i
  · have h1 := Int.ediv_le_self j h
    have h2 := Int.ediv_nonneg h (Int.le_of_lt hj)
    omega
  · have h3 : i < 0 := Int.not_le.mp h
    have h6 : i / j < 0 := Int.ediv_neg_of_neg_of_pos h3 hj
    have e := Int.mul_ediv_add_emod i j
    have h4 := Int.emod_nonneg i (Int.ne_of_gt hj)
    have h5 := Int.emod_lt_of_pos i hj
    by_cases hc : i ≤ i / j
    · omega
    · exfalso
      have h9 : (j - 1) * (i / j) ≤ (j - 1) * (-1) := Int.mul_le_mul_of_nonneg_left (by omega) (by omega)
      have h10 : (j - 1) * (i / j) = j * (i / j) - i / j := by rw [Int.sub_mul, Int.one_mul]
      have h11 : (j - 1) * (-1) = 1 - j := by omega
      omega
theorem Sz.le {n : Nat} {i j : Int} (h : i.natAbs ≤ j.natAbs) (k : Sz n j) : Sz n i := ⟨Nat.lt_of_le_of_lt h k.lt⟩
theorem Sz.ediv {n : Nat} {i j : Int} (h : Sz n i) (hj : 0 < j) : Sz n (i / j) := .le (natAbs_ediv_le i j hj) h
theorem Sz.ite {n m : Nat} {c : Prop} [Decidable c] {i j : Int} (h : Sz n i) (k : Sz m j) : Sz (max n m) (if c then i else j) := by
  split
  · exact h.mono (Nat.le_max_left _ _)
  · exact k.mono (Nat.le_max_right _ _)
theorem Sz.nabs {n : Nat} {i : Int} (h : Sz n i) : Sz n (i.natAbs : Int) := ⟨by rw [Int.natAbs_natCast]; exact h.lt⟩
theorem Sz.zero (n : Nat) : Sz n 0 := ⟨Nat.two_pow_pos n⟩
theorem Sz.of_bits {n : Nat} {i : Int} (h : Builtin.Int.intBits i ≤ n) : Sz n i := by
  unfold Builtin.Int.intBits at h
  split at h
  · rename_i z
    have e : i = 0 := by simpa using z
    subst e
    exact .zero n
  · exact (Sz.self i).mono h
/-- by a bound of small size -/
theorem Sz.of_lt {n : Nat} {i : Int} (m : Nat) (h : i.natAbs < m) (l : m ≤ 2 ^ n) : Sz n i := ⟨Nat.lt_of_lt_of_le h l⟩
theorem Sz.log2 {n : Nat} {i : Int} (h : Sz n i) : i.natAbs.log2 ≤ n := by
  by_cases e : i.natAbs = 0
  · rw [e]
    have : Nat.log2 0 = 0 := by decide
    omega
  · exact Nat.le_of_lt ((Nat.log2_lt e).mpr h.lt)
theorem intBits_le (x : Int) : Builtin.Int.intBits x ≤ x.natAbs.log2 + 1 := by
  unfold Builtin.Int.intBits
  split <;> omega
theorem Sz.ok {n m : Nat} {i j : Int} (h : Sz n i) (k : Sz m j) (l : n + m ≤ 100000000) : IntMulOk i j := by
  have h1 := intBits_le i
  have h2 := intBits_le j
  have h3 := h.log2
  have h4 := k.log2
  have e : bitsLine = 134217728 := by decide
  unfold IntMulOk
  intro z
  rw [Bool.and_eq_true] at z
  have z2 := z.2
  unfold Builtin.Int.intTooBig at z2
  have z3 := of_decide_eq_true z2
  rw [e] at z3
  omega
theorem Sz.noPylong {x y : Int} {n : Nat} (h : Sz n y) (l : n ≤ 8999) : Builtin.divisionGoesByPylong x y = false := PyProof.noPylong_of_log2 (by have := h.log2; omega)

/-! ### more expressions -/
section
variable {X : Cx} {C : Ctx} {ρ : Rho} {e a b c : Expr} {es : List Expr} {d da db : D} {ds : List D} {pos : Pos}
theorem op_mulK : OpR X (binaryOp .Mult) (rI IntMulOk fun i j => .int (i * j)) := opI fun _ _ _ _ _ _ _ hc q => mul_int q hc
theorem op_fdivK : OpR X (binaryOp .FloorDiv) (rI (fun _ j => j ≠ 0 ∧ Sz 8999 j) fun i j => .int (i.fdiv j)) := opI fun _ _ _ _ _ _ _ hc q => floordiv_int hc.1 q (.inl (hc.2.noPylong (by decide)))
theorem ee_mul {i j : Int} (ha : EE X C ρ a (.int i)) (hb : EE X C ρ b (.int j)) (h : IntMulOk i j) : EE X C ρ (.BinOp a .Mult b pos) (.int (i * j)) := ee_op op_mulK ha hb fun _ _ q => ⟨i, j, rfl, rfl, h, q⟩
theorem ee_fdivN {i j : Int} (ha : EE X C ρ a (.int i)) (hb : EE X C ρ b (.int j)) (h0 : j ≠ 0) (h : Sz 8999 j) : EE X C ρ (.BinOp a .FloorDiv b pos) (.int (i.fdiv j)) := ee_op op_fdivK ha hb fun _ _ q => ⟨i, j, rfl, rfl, ⟨h0, h⟩, q⟩
theorem ee_fdiv {i j : Int} (ha : EE X C ρ a (.int i)) (hb : EE X C ρ b (.int j)) (h0 : 0 < j) (h : Sz 8999 j) : EE X C ρ (.BinOp a .FloorDiv b pos) (.int (i / j)) :=
  (ee_fdivN ha hb (Int.ne_of_gt h0) h).eq (by rw [Int.fdiv_eq_ediv_of_nonneg i (Int.le_of_lt h0)])
theorem ee_modN {i j : Int} (ha : EE X C ρ a (.int i)) (hb : EE X C ρ b (.int j)) (h0 : j ≠ 0) : EE X C ρ (.BinOp a .Mod b pos) (.int (i.fmod j)) := ee_op op_modN ha hb fun _ _ q => ⟨i, j, rfl, rfl, h0, q⟩
theorem ee_mod {i j : Int} (ha : EE X C ρ a (.int i)) (hb : EE X C ρ b (.int j)) (h0 : 0 < j) : EE X C ρ (.BinOp a .Mod b pos) (.int (i % j)) :=
  (ee_modN ha hb (Int.ne_of_gt h0)).eq (by rw [Int.fmod_eq_emod_of_nonneg i (Int.le_of_lt h0)])
theorem ee_pow {i j : Int} (ha : EE X C ρ a (.int i)) (hb : EE X C ρ b (.int j)) (h : CPow i j) : EE X C ρ (.BinOp a .Pow b pos) (.int (i ^ j.toNat)) := ee_op op_pow ha hb fun _ _ q => ⟨i, j, rfl, rfl, h, q⟩
theorem ee_neg {i : Int} (ha : EE X C ρ a (.int i)) : EE X C ρ (.UnaryOp .USub a pos) (.int (-i)) := fun σ H S Q q => by
  refine wpE_of (pe_un un_neg pe_wp) (ha σ H S _ fun v H1 s1 r1 => ?_)
  cases r1
  exact ⟨i, rfl, q _ H1 s1 (.at _)⟩
/-- an operation on two data -/
theorem ee_opD {op : Operator} {r : R2} (ho : OpR X (binaryOp op) r) (ha : EE X C ρ a da) (hb : EE X C ρ b db)
    (hr : ∀ σ H v u, SRel X.K C H σ ρ → Rep X.K (vis C (ows ρ) H) v da → Rep X.K (vis C (ows ρ) H) u db → ∀ Q : VK, (∀ w H', Same H H' → Rep X.K (vis C (ows ρ) H') w d → Q w H') → r v u H Q) : EE X C ρ (.BinOp a op b pos) d := fun σ H S Q q => by
  refine wpE_of (pe_op ho pe_wp pe_wp) (ha σ H S _ fun v H1 s1 r1 => hb σ H1 (S.same s1) _ fun u H2 s2 r2 => ?_)
  exact hr σ H2 v u ((S.same s1).same s2) (Rep.mono (vis_same s2) _ r1) r2 Q fun w H' s3 r3 => q w H' ((s1.trans s2).trans s3) r3

/-! ### comparisons -/
def wpC (X : Cx) (op : CmpOp) (a b : Expr) : TE := fun σ H Q => ∀ pins s, Inv X pins σ H s →
  wpAny (model X.prog X.w) X.A (eval a X.env) (fun v s₁ => wpAny (model X.prog X.w) X.A (eval b X.env) (fun u s₂ => wpAny (model X.prog X.w) X.A (compareOp op v u) (EP X pins σ Q) X.xe s₂) X.xe s₁) X.xe s
theorem pc_wp {op : CmpOp} : PC X op a b (wpC X op a b) := ⟨fun pins s _ _ _ I h => h pins s I⟩
/-- the comparison's value is z -/
def EC (X : Cx) (C : Ctx) (ρ : Rho) (op : CmpOp) (a b : Expr) (z : V) : Prop :=
  ∀ σ H, SRel X.K C H σ ρ → ∀ Q : VK, (∀ H', Same H H' → Q z H') → wpC X op a b σ H Q
theorem EC.eq {op : CmpOp} {z z' : V} (h : EC X C ρ op a b z) (q : z = z') : EC X C ρ op a b z' := q ▸ h
theorem ec_opD {op : CmpOp} {r : R2} {z : V} (ho : OpR X (compareOp op) r) (ha : EE X C ρ a da) (hb : EE X C ρ b db)
    (hr : ∀ σ H v u, SRel X.K C H σ ρ → Rep X.K (vis C (ows ρ) H) v da → Rep X.K (vis C (ows ρ) H) u db → ∀ Q : VK, (∀ H', Same H H' → Q z H') → r v u H Q) : EC X C ρ op a b z := fun σ H S Q q pins s I => by
  refine binT pe_wp pe_wp I (R := fun v u H2 => r v u H2 Q) (ha σ H S _ fun v H1 s1 r1 => hb σ H1 (S.same s1) _ fun u H2 s2 r2 => ?_) fun v u s2 x y H2 I2 rx ry q2 => ho pins s2 σ H2 x y v u Q I2 rx ry q2
  exact hr σ H2 v u ((S.same s1).same s2) (Rep.mono (vis_same s2) _ r1) r2 Q fun H' s3 => q H' ((s1.trans s2).trans s3)
theorem ec_op {op : CmpOp} {r : R2} {x y z : V} (ho : OpR X (compareOp op) r) (ha : EE X C ρ a (.at x)) (hb : EE X C ρ b (.at y)) (hr : ∀ H (Q : VK), Q z H → r x y H Q) : EC X C ρ op a b z :=
  ec_opD ho ha hb fun σ H v u S r1 r2 Q q => by
    cases r1
    cases r2
    exact hr H Q (q H (Same.refl H))
theorem ee_cmp {op : CmpOp} {z : V} (h : EC X C ρ op a b z) (h1 : behindInMarks op b = false := by first | exact nobehind _ (by decide) (by decide) | rfl) : EE X C ρ (.Compare a [op] [b] pos) (.at z) := fun σ H S Q q =>
  wpE_of (pe_cmp pc_wp h1) (h σ H S _ fun H' s => q _ H' s (.at z))
theorem et_cmp {op : CmpOp} {k : Bool} (h : EC X C ρ op a b (.bl k)) (h1 : behindInMarks op b = false := by first | exact nobehind _ (by decide) (by decide) | rfl) : ET X C ρ (.Compare a [op] [b] pos) k := fun σ H S Q q =>
  wpT_of (pt_cmp pc_wp h1) (h σ H S _ fun H' s => ⟨k, rfl, q H' s⟩)
theorem ec_lt {i j : Int} (ha : EE X C ρ a (.int i)) (hb : EE X C ρ b (.int j)) : EC X C ρ .Lt a b (.bl (decide (i < j))) := ec_op op_lt ha hb fun _ _ q => ⟨i, j, rfl, rfl, q⟩
theorem ec_le {i j : Int} (ha : EE X C ρ a (.int i)) (hb : EE X C ρ b (.int j)) : EC X C ρ .LtE a b (.bl (decide (i ≤ j))) := ec_op op_le ha hb fun _ _ q => ⟨i, j, rfl, rfl, q⟩
theorem ec_gt {i j : Int} (ha : EE X C ρ a (.int i)) (hb : EE X C ρ b (.int j)) : EC X C ρ .Gt a b (.bl (decide (j < i))) := ec_op op_gt ha hb fun _ _ q => ⟨i, j, rfl, rfl, q⟩
theorem ec_ge {i j : Int} (ha : EE X C ρ a (.int i)) (hb : EE X C ρ b (.int j)) : EC X C ρ .GtE a b (.bl (decide (j ≤ i))) := ec_op op_ge ha hb fun _ _ q => ⟨i, j, rfl, rfl, q⟩
theorem ec_eqI {i j : Int} (ha : EE X C ρ a (.int i)) (hb : EE X C ρ b (.int j)) : EC X C ρ .Eq a b (.bl (decide (i = j))) :=
  ec_op op_eq ha hb fun _ _ q => ⟨rfl, by rw [show decide (V.int i = V.int j) = decide (i = j) by rw [dec_int, Bool.beq_eq_decide_eq]]; exact q⟩
theorem ec_neI {i j : Int} (ha : EE X C ρ a (.int i)) (hb : EE X C ρ b (.int j)) : EC X C ρ .NotEq a b (.bl (!decide (i = j))) :=
  ec_op op_ne ha hb fun _ _ q => ⟨rfl, by rw [show decide (V.int i = V.int j) = decide (i = j) by rw [dec_int, Bool.beq_eq_decide_eq]]; exact q⟩
theorem ec_eqB {i j : Bool} (ha : EE X C ρ a (.bl i)) (hb : EE X C ρ b (.bl j)) : EC X C ρ .Eq a b (.bl (i == j)) :=
  ec_op op_eq ha hb fun _ _ q => ⟨rfl, by rw [dec_bl]; exact q⟩
theorem ec_neB {i j : Bool} (ha : EE X C ρ a (.bl i)) (hb : EE X C ρ b (.bl j)) : EC X C ρ .NotEq a b (.bl (!(i == j))) :=
  ec_op op_ne ha hb fun _ _ q => ⟨rfl, by rw [dec_bl]; exact q⟩
theorem ec_eqS {i j : Str} (ha : EE X C ρ a (.str i)) (hb : EE X C ρ b (.str j)) : EC X C ρ .Eq a b (.bl (i == j)) :=
  ec_op op_eq ha hb fun _ _ q => ⟨rfl, by rw [dec_str]; exact q⟩
theorem ec_neS {i j : Str} (ha : EE X C ρ a (.str i)) (hb : EE X C ρ b (.str j)) : EC X C ρ .NotEq a b (.bl (!(i == j))) :=
  ec_op op_ne ha hb fun _ _ q => ⟨rfl, by rw [dec_str]; exact q⟩
/-- is it None -/
def D.isNon : D → Bool
  | .at .non => true
  | _ => false
theorem Rep.isNon {K : PySem.W.Frag} {H : Hp} : ∀ {v : V} {d : D}, Rep K H v d → decide (v = .non) = d.isNon
  | v, .at w, h => by
    cases h
    cases v <;> first | rfl | simp [D.isNon]
  | _, .tup _, h => by cases h; simp [D.isNon]
  | _, .lst _, h => by cases h; simp [D.isNon]
  | _, .exc _, h => by cases h; simp [D.isNon]
  | _, .obj _ _ _, h => by cases h; simp [D.isNon]
  | _, .dct, h => by cases h; simp [D.isNon]
  | _, .any, h => by cases h; simp [D.isNon]
theorem ec_isN (ha : EE X C ρ a d) {j p} : EC X C ρ .Is a (.Constant .none j p) (.bl d.isNon) :=
  ec_opD op_isN ha ee_non fun σ H v u S r1 r2 Q q => by
    cases r2
    refine ⟨rfl, ?_⟩
    rw [r1.isNon]
    exact q H (Same.refl H)
theorem ec_notN (ha : EE X C ρ a d) {j p} : EC X C ρ .IsNot a (.Constant .none j p) (.bl (!d.isNon)) :=
  ec_opD op_notN ha ee_non fun σ H v u S r1 r2 Q q => by
    cases r2
    refine ⟨rfl, ?_⟩
    rw [r1.isNon]
    exact q H (Same.refl H)

/-! ### data compared -/
mutual
def D.py : D → PyData
  | .at .non => .none
  | .at (.bl b) => .bool b
  | .at (.int i) => .int i
  | .at (.str x) => .str x
  | .at _ => .none
  | .tup ds => .tuple (D.pys ds)
  | .lst ds => .list (D.pys ds)
  | .exc _ => .none
  | .obj _ _ _ => .none
  | .dct => .none
  | .any => .none
def D.pys : List D → List PyData
  | [] => []
  | d :: ds => D.py d :: D.pys ds
end
mutual
def D.pyOk : D → Bool
  | .at .non => true
  | .at (.bl _) => true
  | .at (.int _) => true
  | .at (.str x) => PyData.strOk x
  | .at _ => false
  | .tup ds => D.pysOk ds
  | .lst ds => D.pysOk ds
  | .exc _ => false
  | .obj _ _ _ => false
  | .dct => false
  | .any => false
def D.pysOk : List D → Bool
  | [] => true
  | d :: ds => D.pyOk d && D.pysOk ds
end
mutual
def D.dep : D → Nat
  | .tup ds => D.deps ds + 1
  | .lst ds => D.deps ds + 1
  | .at _ => 0
  | .exc _ => 0
  | .obj _ _ _ => 0
  | .dct => 0
  | .any => 0
def D.deps : List D → Nat
  | [] => 0
  | d :: ds => max (D.dep d) (D.deps ds)
end
mutual
theorem D.dp {K : PySem.W.Frag} {H : Hp} : ∀ (d : D) {v : V}, D.pyOk d = true → Rep K H v d → Dp K H v d.py
  | .at w, v, o, h => by
    cases h
    cases w with
    | non => exact .non
    | bl b => exact .bl b
    | int i => exact .int i
    | str x => exact .str x
    | byt _ => cases o
    | flt _ => cases o
    | ref _ => cases o
    | ty _ => cases o
  | .tup ds, v, o, h => by
    cases h with
    | tup s r => exact .tup (tq s) (D.dps ds o r)
  | .lst ds, v, o, h => by
    cases h with
    | lst s r => exact .lst s (D.dps ds o r)
  | .exc _, v, o, h => by cases o
  | .obj _ _ _, v, o, h => by cases o
  | .dct, v, o, h => by cases o
  | .any, v, o, h => by cases o
theorem D.dps {K : PySem.W.Frag} {H : Hp} : ∀ (ds : List D) {vs : List V}, D.pysOk ds = true → Reps K H vs ds → DpAll K H vs (D.pys ds)
  | [], _, _, h => by cases h; exact .nil
  | d :: ds, _, o, h => by
    cases h with
    | cons r rs =>
      have o' : (D.pyOk d && D.pysOk ds) = true := o
      rw [Bool.and_eq_true] at o'
      exact .cons (D.dp d o'.1 r) (D.dps ds o'.2 rs)
end
mutual
theorem D.lay : ∀ d : D, D.pyOk d = true → d.py.canLay0 = true
  | .at .non, _ => by simp [D.py, PyData.canLay0]
  | .at (.bl b), _ => by simp [D.py, PyData.canLay0]
  | .at (.int i), _ => by simp [D.py, PyData.canLay0]
  | .at (.str x), o => by
    rw [D.py, PyData.canLay0]
    exact o
  | .at (.byt _), _ => by simp [D.py, PyData.canLay0]
  | .at (.flt _), _ => by simp [D.py, PyData.canLay0]
  | .at (.ref _), _ => by simp [D.py, PyData.canLay0]
  | .at (.ty _), _ => by simp [D.py, PyData.canLay0]
  | .tup ds, o => by rw [D.py, PyData.canLay0]; exact D.lays ds o
  | .lst ds, o => by rw [D.py, PyData.canLay0]; exact D.lays ds o
  | .exc _, _ => by simp [D.py, PyData.canLay0]
  | .obj _ _ _, _ => by simp [D.py, PyData.canLay0]
  | .dct, _ => by simp [D.py, PyData.canLay0]
  | .any, _ => by simp [D.py, PyData.canLay0]
theorem D.lays : ∀ ds : List D, D.pysOk ds = true → PyData.canLayAll0 (D.pys ds) = true
  | [], _ => by simp [D.pys, PyData.canLayAll0]
  | d :: ds, o => by
    have o' : (D.pyOk d && D.pysOk ds) = true := o
    rw [Bool.and_eq_true] at o'
    rw [D.pys, PyData.canLayAll0, D.lay d o'.1, D.lays ds o'.2]
    rfl
end
mutual
theorem D.depth_py : ∀ d : D, d.py.depth = d.dep
  | .at .non => by simp [D.py, PyData.depth, D.dep]
  | .at (.bl b) => by simp [D.py, PyData.depth, D.dep]
  | .at (.int i) => by simp [D.py, PyData.depth, D.dep]
  | .at (.str x) => by simp [D.py, PyData.depth, D.dep]
  | .at (.byt _) => by simp [D.py, PyData.depth, D.dep]
  | .at (.flt _) => by simp [D.py, PyData.depth, D.dep]
  | .at (.ref _) => by simp [D.py, PyData.depth, D.dep]
  | .at (.ty _) => by simp [D.py, PyData.depth, D.dep]
  | .tup ds => by rw [D.py, PyData.depth, D.dep, D.depths_py ds]
  | .lst ds => by rw [D.py, PyData.depth, D.dep, D.depths_py ds]
  | .exc _ => by simp [D.py, PyData.depth, D.dep]
  | .obj _ _ _ => by simp [D.py, PyData.depth, D.dep]
  | .dct => by simp [D.py, PyData.depth, D.dep]
  | .any => by simp [D.py, PyData.depth, D.dep]
theorem D.depths_py : ∀ ds : List D, PyData.depthAll (D.pys ds) = D.deps ds
  | [] => by simp [D.pys, PyData.depthAll, D.deps]
  | d :: ds => by rw [D.pys, PyData.depthAll, D.deps, D.depth_py d, D.depths_py ds]
end
/-- == of data -/
def D.eqb (d e : D) : Bool := PyData.eqv d.py e.py
/-- what == can ask of -/
def D.Good (d : D) : Prop := d.pyOk = true ∧ d.dep ≤ 64
theorem D.Good.shaped {d : D} (h : d.Good) : SeqAt.shaped d.py = true := by
  unfold SeqAt.shaped
  rw [D.lay _ h.1, D.depth_py, decide_eq_true h.2]
  rfl
theorem ec_eqD (hu : X.A.units + 64 < cLine) (ha : EE X C ρ a da) (hb : EE X C ρ b db) (ga : da.Good) (gb : db.Good) : EC X C ρ .Eq a b (.bl (D.eqb da db)) :=
  ec_opD (op_eqD hu) ha hb fun σ H v u S r1 r2 Q q => ⟨da.py, db.py, D.dp _ ga.1 (Rep.mono S.visIn _ r1), D.dp _ gb.1 (Rep.mono S.visIn _ r2), ga.shaped, gb.shaped, q H (Same.refl H)⟩
theorem ec_neD (hu : X.A.units + 64 < cLine) (ha : EE X C ρ a da) (hb : EE X C ρ b db) (ga : da.Good) (gb : db.Good) : EC X C ρ .NotEq a b (.bl (!D.eqb da db)) :=
  ec_opD (op_neD hu) ha hb fun σ H v u S r1 r2 Q q => ⟨da.py, db.py, D.dp _ ga.1 (Rep.mono S.visIn _ r1), D.dp _ gb.1 (Rep.mono S.visIn _ r2), ga.shaped, gb.shaped, q H (Same.refl H)⟩
/-- t < u of tuples of ints -/
theorem ec_ltT {ns ms : List Int} (hu : X.A.units < cLine) (ha : EE X C ρ a (.tup (D.ints ns))) (hb : EE X C ρ b (.tup (D.ints ms))) : EC X C ρ .Lt a b (.bl (HT.lexLt ns ms)) :=
  ec_opD (op_ltT hu) ha hb fun σ H v u S r1 r2 Q q => by
    cases r1 with
    | tup s1 t1 =>
      cases r2 with
      | tup s2 t2 =>
        have e1 := t1.ints
        have e2 := t2.ints
        subst e1 e2
        exact ⟨_, _, ns, ms, rfl, rfl, Same.seqT S.visIn (tq s1), Same.seqT S.visIn (tq s2), q H (Same.refl H)⟩
end
end DL

namespace DL
open PySem PySem.Spec PyProof.Rows L2
/-! ### tests -/
section
variable {X : Cx} {C : Ctx} {ρ : Rho} {e a b c : Expr} {es rest : List Expr} {d da db : D} {ds : List D} {pos : Pos} {k k' : Bool}
def wpW (X : Cx) (e : Expr) : TT := fun σ H Q => ∀ (whole : Sem Value) pins s, Inv X pins σ H s → wpAny (model X.prog X.w) X.A (isTrue e X.env whole) (TP X pins σ Q) X.xe s
theorem pw_wp : PW X e (wpW X e) := ⟨fun wh pins s _ _ _ I h => h wh pins s I⟩
theorem wpW_of {t : TT} (h : PW X e t) {σ : L2.St} {H : Hp} {Q : Bool → Hp → Prop} (q : t σ H Q) : wpW X e σ H Q := fun wh pins s I => h.run wh pins s σ H Q I q
/-- and, or as a test -/
def EW (X : Cx) (C : Ctx) (ρ : Rho) (e : Expr) (c : Bool) : Prop :=
  ∀ σ H, SRel X.K C H σ ρ → ∀ Q : Bool → Hp → Prop, (∀ H', Same H H' → Q c H') → wpW X e σ H Q
theorem EW.eq (h : EW X C ρ e k) (q : k = k') : EW X C ρ e k' := q ▸ h
theorem EW.et (h : EW X C ρ e k) : ET X C ρ e k := fun σ H S Q q => wpT_of (PW.pt pw_wp) (h σ H S Q q)
theorem ew_and1 (h : ET X C ρ a k) : EW X C ρ (.BoolOp .And [a] pos) k := fun σ H S Q q => wpW_of (pw_and1 pt_wp) (h σ H S Q q)
theorem ew_or1 (h : ET X C ρ a k) : EW X C ρ (.BoolOp .Or [a] pos) k := fun σ H S Q q => wpW_of (pw_or1 pt_wp) (h σ H S Q q)
theorem ew_and (h : ET X C ρ a k) (h2 : k = true → EW X C ρ (.BoolOp .And (b :: rest) pos) k') : EW X C ρ (.BoolOp .And (a :: b :: rest) pos) (k && k') := fun σ H S Q q => wpW_of (pw_and pt_wp pw_wp) (h σ H S _ fun H1 s1 => by
  cases k with
  | true => exact iteT (h2 rfl σ H1 (S.same s1) Q fun H2 s2 => q H2 (s1.trans s2))
  | false => exact iteF (q H1 s1))
theorem ew_or (h : ET X C ρ a k) (h2 : k = false → EW X C ρ (.BoolOp .Or (b :: rest) pos) k') : EW X C ρ (.BoolOp .Or (a :: b :: rest) pos) (k || k') := fun σ H S Q q => wpW_of (pw_or pt_wp pw_wp) (h σ H S _ fun H1 s1 => by
  cases k with
  | true => exact iteT (q H1 s1)
  | false => exact iteF (h2 rfl σ H1 (S.same s1) Q fun H2 s2 => q H2 (s1.trans s2)))
theorem et_not (h : ET X C ρ a k) : ET X C ρ (.UnaryOp .Not a pos) (!k) := fun σ H S Q q => wpT_of (pt_not pt_wp) (h σ H S _ fun H1 s1 => q H1 s1)
theorem et_val (h : EE X C ρ e (.bl k)) (he : ∀ whole, isTrue e X.env whole = (do let v ← whole; standAt e.pos; holding [v] (truthy v)) := by intro _; rfl) : ET X C ρ e k := fun σ H S Q q =>
  wpT_of (pt_val pe_wp he) (h σ H S _ fun v H1 s1 r1 => by
    cases r1
    exact ⟨k, rfl, q H1 s1⟩)
/-- a list's truth -/
theorem et_lst (h : EL X C ρ e ds) (he : ∀ whole, isTrue e X.env whole = (do let v ← whole; standAt e.pos; holding [v] (truthy v)) := by intro _; rfl) : ET X C ρ e (!ds.isEmpty) := fun σ H S Q q =>
  wpT_of (pt_truth pe_wp he) (h σ H S _ fun a xs H1 s1 l r => by
    refine ⟨_, .inl ⟨xs, l, ?_⟩, q H1 s1⟩
    have e1 := r.length
    cases xs <;> cases ds <;> first | rfl | (simp at e1))
/-! as values -/
theorem ee_b1 {op} (h : EE X C ρ a d) : EE X C ρ (.BoolOp op [a] pos) d := fun σ H S Q q => wpE_of (pe_one pe_wp) (h σ H S Q q)
theorem ee_and (h : EE X C ρ a (.bl k)) (h2 : k = true → EE X C ρ (.BoolOp .And (b :: rest) pos) (.bl k')) : EE X C ρ (.BoolOp .And (a :: b :: rest) pos) (.bl (k && k')) := fun σ H S Q q => wpE_of (pe_and pe_wp pe_wp) (h σ H S _ fun v H1 s1 r1 => by
  cases r1
  refine ⟨k, rfl, ?_⟩
  cases k with
  | true => exact iteT (h2 rfl σ H1 (S.same s1) Q fun v2 H2 s2 r2 => q v2 H2 (s1.trans s2) r2)
  | false => exact iteF (q _ H1 s1 (.at _)))
theorem ee_or (h : EE X C ρ a (.bl k)) (h2 : k = false → EE X C ρ (.BoolOp .Or (b :: rest) pos) (.bl k')) : EE X C ρ (.BoolOp .Or (a :: b :: rest) pos) (.bl (k || k')) := fun σ H S Q q => wpE_of (pe_or pe_wp pe_wp) (h σ H S _ fun v H1 s1 r1 => by
  cases r1
  refine ⟨k, rfl, ?_⟩
  cases k with
  | true => exact iteT (q _ H1 s1 (.at _))
  | false => exact iteF (h2 rfl σ H1 (S.same s1) Q fun v2 H2 s2 r2 => q v2 H2 (s1.trans s2) r2))
theorem ee_not (h : EE X C ρ a (.bl k)) : EE X C ρ (.UnaryOp .Not a pos) (.bl (!k)) := fun σ H S Q q => wpE_of (pe_not pe_wp) (h σ H S _ fun v H1 s1 r1 => by
  cases r1
  exact ⟨k, rfl, q _ H1 s1 (.at _)⟩)
theorem ee_ifExp {d1 d2 : D} (h : ET X C ρ c k) (h1 : k = true → EE X C ρ a d1) (h2 : k = false → EE X C ρ b d2) : EE X C ρ (.IfExp c a b pos) (if k = true then d1 else d2) := fun σ H S Q q => wpE_of (pe_ifExp pt_wp pe_wp pe_wp) (h σ H S _ fun H1 s1 => by
  cases k with
  | true => exact iteT (h1 rfl σ H1 (S.same s1) Q fun v2 H2 s2 r2 => q v2 H2 (s1.trans s2) r2)
  | false => exact iteF (h2 rfl σ H1 (S.same s1) Q fun v2 H2 s2 r2 => q v2 H2 (s1.trans s2) r2))
/-- a < b < c of ints -/
theorem ec_chain {o1 o2 : CmpOp} {p1 p2 : Int → Int → Bool} {i j l : Int} (h1 : OpR X (compareOp o1) (rI0 fun i j => .bl (p1 i j))) (h2 : OpR X (compareOp o2) (rI0 fun i j => .bl (p2 i j)))
    (ha : EE X C ρ a (.int i)) (hb : EE X C ρ b (.int j)) (hc : EE X C ρ c (.int l)) (hm : lastMarks [o1, o2] [b, c] = false := by with_unfolding_all rfl) : EE X C ρ (.Compare a [o1, o2] [b, c] pos) (.bl (p1 i j && p2 j l)) := fun σ H S Q q => by
  refine wpE_of (pe_chain h1 h2 pe_wp pe_wp pe_wp hm) (ha σ H S _ fun v H1 s1 r1 => hb σ H1 (S.same s1) _ fun u H2 s2 r2 => ?_)
  cases r1
  cases r2
  refine ⟨i, j, rfl, rfl, _, rfl, ?_⟩
  cases e : p1 i j with
  | false =>
    refine iteF ?_
    rw [e] at q
    exact q _ H2 (s1.trans s2) (.at _)
  | true =>
    refine iteT (hc σ H2 ((S.same s1).same s2) _ fun w H3 s3 r3 => ?_)
    cases r3
    refine ⟨j, l, rfl, rfl, ?_⟩
    rw [e] at q
    exact q _ H3 ((s1.trans s2).trans s3) (.at _)
theorem et_chain {o1 o2 : CmpOp} {p1 p2 : Int → Int → Bool} {i j l : Int} (h1 : OpR X (compareOp o1) (rI0 fun i j => .bl (p1 i j))) (h2 : OpR X (compareOp o2) (rI0 fun i j => .bl (p2 i j)))
    (ha : EE X C ρ a (.int i)) (hb : EE X C ρ b (.int j)) (hc : EE X C ρ c (.int l)) (hm : lastMarks [o1, o2] [b, c] = false := by with_unfolding_all rfl) : ET X C ρ (.Compare a [o1, o2] [b, c] pos) (p1 i j && p2 j l) := fun σ H S Q q => by
  refine wpT_of (pt_chain h1 h2 pe_wp pe_wp pe_wp hm) (ha σ H S _ fun v H1 s1 r1 => hb σ H1 (S.same s1) _ fun u H2 s2 r2 => ?_)
  cases r1
  cases r2
  refine ⟨i, j, rfl, rfl, _, rfl, ?_⟩
  cases e : p1 i j with
  | false =>
    refine iteF ⟨false, rfl, ?_⟩
    rw [e] at q
    exact q H2 (s1.trans s2)
  | true =>
    refine iteT (hc σ H2 ((S.same s1).same s2) _ fun w H3 s3 r3 => ?_)
    cases r3
    refine ⟨j, l, rfl, rfl, _, rfl, ?_⟩
    rw [e] at q
    exact q H3 ((s1.trans s2).trans s3)

/-! ### argument lists, tuples, lists -/
theorem ea_nil : EA X C ρ [] [] := fun σ H S Q q => wpA_of pa_nil (q [] H (Same.refl H) .nil)
theorem ea_cons (h : EE X C ρ e d) (hr : EA X C ρ es ds) (hs : starEach (e :: es) X.env = (false, eval e X.env) :: starEach es X.env := by rfl) : EA X C ρ (e :: es) (d :: ds) := fun σ H S Q q =>
  wpA_of (pa_cons pe_wp pa_wp hs) (h σ H S _ fun v H1 s1 r1 => hr σ H1 (S.same s1) _ fun vs H2 s2 r2 => q (v :: vs) H2 (s1.trans s2) (.cons (Rep.mono (vis_same s2) _ r1) r2))
/-- an argument list whose parts may be one's own lists: told in the whole heap -/
def EAl (X : Cx) (C : Ctx) (ρ : Rho) (es : List Expr) (ds : List D) : Prop :=
  ∀ σ H, SRel X.K C H σ ρ → ∀ Q : List V → Hp → Prop, (∀ vs H', Same H H' → Reps X.K H' vs ds → Q vs H') → wpA X es σ H Q
theorem EA.al (h : EA X C ρ es ds) : EAl X C ρ es ds := fun σ H S Q q => h σ H S Q fun vs H' s r => q vs H' s (Reps.mono (S.same s).visIn _ r)
theorem eal_nil : EAl X C ρ [] [] := ea_nil.al
theorem eal_cons (h : EE X C ρ e d) (hr : EAl X C ρ es ds) (hs : starEach (e :: es) X.env = (false, eval e X.env) :: starEach es X.env := by rfl) : EAl X C ρ (e :: es) (d :: ds) := fun σ H S Q q =>
  wpA_of (pa_cons pe_wp pa_wp hs) (h σ H S _ fun v H1 s1 r1 => hr σ H1 (S.same s1) _ fun vs H2 s2 r2 => q (v :: vs) H2 (s1.trans s2) (.cons (Rep.mono s2 _ (Rep.mono (S.same s1).visIn _ r1)) r2))
theorem eal_consL {dl : List D} (h : EL X C ρ e dl) (hr : EAl X C ρ es ds) (hs : starEach (e :: es) X.env = (false, eval e X.env) :: starEach es X.env := by rfl) : EAl X C ρ (e :: es) (.lst dl :: ds) := fun σ H S Q q =>
  wpA_of (pa_cons pe_wp pa_wp hs) (h σ H S _ fun a xs H1 s1 l r1 => hr σ H1 (S.same s1) _ fun vs H2 s2 r2 => q (.ref a :: vs) H2 (s1.trans s2)
    (.cons (.lst (s2.seq l) (Reps.mono s2 _ (Reps.mono (S.same s1).visIn _ r1))) r2))
theorem ee_tup (h : EA X C ρ es ds) {x1} (hl : ds.length ≤ sizeLine := by exact Nat.le_of_ble_eq_true rfl) : EE X C ρ (.Tuple es x1 pos) (.tup ds) := fun σ H S Q q =>
  wpE_of (pe_tup pa_wp) (h σ H S _ fun vs H1 s1 r1 => ⟨by rw [r1.length]; exact hl, fun p np => by
    have S1 := S.same s1
    refine q _ _ (s1.trans (same_upd np)) ?_
    rw [S1.visNew np]
    have np' : vis C (ows ρ) H1 p = none := S1.visIn.free np
    exact .tup upd_same (Reps.mono (same_upd np') _ r1)⟩)
theorem ef_lst (h : EA X C ρ es ds) (hl : ds.length ≤ sizeLine := by exact Nat.le_of_ble_eq_true rfl) : EF X C ρ (.List es pos) ds := fun σ H S Q q =>
  wpE_of (pe_lst pa_wp) (h σ H S _ fun vs H1 s1 r1 => ⟨by rw [r1.length]; exact hl, fun p np => by
    have S1 := S.same s1
    refine q p vs _ (s1.free np) (s1.trans (same_upd np)) upd_same ?_
    refine Reps.mono ?_ _ r1
    intro z o hz
    have nz : z ≠ p := ne_of_none (S1.visIn _ _ hz) np
    have e1 : vis C (p :: ows ρ) (upd H1 p (.lst vs)) z = vis C (ows ρ) H1 z := by
      unfold vis
      rw [upd_ne nz]
      simp [nz]
    rw [e1]
    exact hz⟩)
theorem ee_lst (h : EA X C ρ es ds) (hl : ds.length ≤ sizeLine := by exact Nat.le_of_ble_eq_true rfl) : EE X C ρ (.List es pos) (.lst ds) := (ef_lst h hl).ee

/-! ### subscripts -/
theorem atI_reps {K : PySem.W.Frag} {H : Hp} {vs : List V} {ds : List D} {i : Int} {d : D} (r : Reps K H vs ds) (h : atI ds i = some d) : ∃ v, atI vs i = some v ∧ Rep K H v d := by
  unfold atI at h ⊢
  rw [r.length]
  cases e : ixN ds.length i with
  | none => rw [e] at h; cases h
  | some j =>
    rw [e] at h
    exact r.get h
theorem ee_ixT {i : Int} (ha : EE X C ρ a (.tup ds)) (hb : EE X C ρ b (.int i)) (h : atI ds i = some d) (hp : PlainIx b := by intro _ _; rfl) : EE X C ρ (.Subscript a b pos) d := fun σ H S Q q =>
  wpE_of (pe_ix ix_tup pe_wp pe_wp hp) (ha σ H S _ fun v H1 s1 r1 => hb σ H1 (S.same s1) _ fun u H2 s2 r2 => by
    cases r2
    cases r1 with
    | tup sq rs =>
      have S2 := (S.same s1).same s2
      obtain ⟨v, e1, e2⟩ := atI_reps rs h
      exact ⟨_, _, i, v, rfl, rfl, Same.seqT s2 (Same.seqT (S.same s1).visIn (tq sq)), e1, q v H2 (s1.trans s2) (Rep.mono (vis_same s2) _ e2)⟩)
theorem ee_ixL {i : Int} (ha : EL X C ρ a ds) (hb : EE X C ρ b (.int i)) (h : atI ds i = some d) (hp : PlainIx b := by intro _ _; rfl) : EE X C ρ (.Subscript a b pos) d := fun σ H S Q q =>
  wpE_of (pe_ix ix_list pe_wp pe_wp hp) (ha σ H S _ fun p xs H1 s1 l r1 => hb σ H1 (S.same s1) _ fun u H2 s2 r2 => by
    cases r2
    obtain ⟨v, e1, e2⟩ := atI_reps r1 h
    exact ⟨_, _, i, v, rfl, rfl, s2.seq l, e1, q v H2 (s1.trans s2) (Rep.mono (vis_same s2) _ e2)⟩)
def cutD (xs : List D) (lo hi : Option Int) : List D := (xs.drop (HT.sIx xs.length 0 lo)).take (HT.sIx xs.length xs.length hi - HT.sIx xs.length 0 lo)
theorem cut_reps {K : PySem.W.Frag} {H : Hp} {vs : List V} {ds : List D} (lo hi : Option Int) (r : Reps K H vs ds) : Reps K H (cutV vs lo hi) (cutD ds lo hi) := by
  unfold cutV cutD
  rw [r.length]
  exact Reps.take _ (Reps.drop _ r)
def wpO (X : Cx) (e : Option Expr) : TO := fun σ H Q => ∀ pins s, Inv X pins σ H s → wpAny (model X.prog X.w) X.A (evalPart e X.env) (fun u s' => ∃ o H', Inv X pins σ H' s' ∧ IsPart u o ∧ Q o H') X.xe s
theorem po_wp {e : Option Expr} : PO X e (wpO X e) := ⟨fun pins s _ _ _ I h => h pins s I⟩
/-- a slice's part -/
def EO (X : Cx) (C : Ctx) (ρ : Rho) (e : Option Expr) (o : Option Int) : Prop :=
  ∀ σ H, SRel X.K C H σ ρ → ∀ Q : Option Int → Hp → Prop, (∀ H', Same H H' → Q o H') → wpO X e σ H Q
theorem eo_none : EO X C ρ none none := fun σ H S Q q => fun pins s I => po_none.run pins s σ H Q I (q H (Same.refl H))
theorem eo_some {i : Int} (h : EE X C ρ e (.int i)) : EO X C ρ (some e) (some i) := fun σ H S Q q => fun pins s I => (po_some pe_wp).run pins s σ H Q I (h σ H S _ fun v H1 s1 r1 => by
  cases r1
  exact ⟨i, rfl, q H1 s1⟩)
theorem ef_slice {lo hi : Option Expr} {l u : Option Int} {p2 : Pos} (ha : EL X C ρ a ds) (hl : EO X C ρ lo l) (hu : EO X C ρ hi u) : EF X C ρ (.Subscript a (.Slice lo hi none p2) pos) (cutD ds l u) := fun σ H S Q q =>
  wpE_of (pe_slice sl_list pe_wp po_wp po_wp) (ha σ H S _ fun p xs H1 s1 sq r1 => hl σ H1 (S.same s1) _ fun H2 s2 => hu σ H2 ((S.same s1).same s2) _ fun H3 s3 => ⟨p, xs, rfl, s3.seq (s2.seq sq), fun z nz => by
    have S3 := ((S.same s1).same s2).same s3
    refine q z _ _ (((s1.trans s2).trans s3).free nz) (((s1.trans s2).trans s3).trans (same_upd nz)) upd_same ?_
    refine Reps.mono ?_ _ (cut_reps l u r1)
    intro y o hy
    have hy3 := vis_same (C := C) (o := ows ρ) (s2.trans s3) _ _ hy
    have ny : y ≠ z := ne_of_none (S3.visIn _ _ hy3) nz
    have e1 : vis C (z :: ows ρ) (upd H3 z (.lst (cutV xs l u))) y = vis C (ows ρ) H3 y := by
      unfold vis
      rw [upd_ne ny]
      simp [ny]
    rw [e1]
    exact hy3⟩)
theorem ee_sliceT {lo hi : Option Expr} {l u : Option Int} {p2 : Pos} (ha : EE X C ρ a (.tup ds)) (hl : EO X C ρ lo l) (hu : EO X C ρ hi u) (hw : ¬ (HT.sIx ds.length 0 l = 0 ∧ HT.sIx ds.length ds.length u = ds.length)) :
    EE X C ρ (.Subscript a (.Slice lo hi none p2) pos) (.tup (cutD ds l u)) := fun σ H S Q q =>
  wpE_of (pe_slice sl_tup pe_wp po_wp po_wp) (ha σ H S _ fun v H1 s1 r1 => hl σ H1 (S.same s1) _ fun H2 s2 => hu σ H2 ((S.same s1).same s2) _ fun H3 s3 => by
    cases r1 with
    | tup sq rs =>
      have S3 := ((S.same s1).same s2).same s3
      refine ⟨_, _, rfl, Same.seqT s3 (Same.seqT s2 (Same.seqT (S.same s1).visIn (tq sq))), by rw [rs.length]; exact hw, fun z nz => ?_⟩
      refine q _ _ (((s1.trans s2).trans s3).trans (same_upd nz)) ?_
      rw [S3.visNew nz]
      have nz' : vis C (ows ρ) H3 z = none := S3.visIn.free nz
      exact .tup upd_same (Reps.mono (same_upd nz') _ (Reps.mono (vis_same (s2.trans s3)) _ (cut_reps l u rs))))

/-! ### built-in calls -/
/-- a built-in function by its rule -/
theorem ee_callB {id : String} {x : Str} {p : Pos} {r : List V → Hp → VK → Prop} (hc : CallR X (.builtin id) r) (ha : EAl X C ρ (e :: es) ds) (hr : ∀ σ H vs, SRel X.K C H σ ρ → Reps X.K H vs ds → ∀ Q : VK, (∀ v H', Same H H' → Rep X.K (vis C (ows ρ) H') v d → Q v H') → r vs H Q)
    (hm : X.mg x = none) (hv : bootBuiltins x = some (.builtin id) := by decide +kernel) (hg : Gl X x := by rfl) (hn : x ≠ "__name__" := by decide) (hdb : (x == ("__debug__" : Str)) = false := by decide)
    (he : starEach (e :: es) X.env = (false, eval e X.env) :: starEach es X.env := by rfl) (hpl : (backTo pos (starEach es X.env)).any (·.1) = false := by rfl) : EE X C ρ (.Call (.Name x p) (e :: es) [] pos) d := fun σ H S Q q =>
  wpE_of (pe_callB hc hg hm hv pa_wp hn hdb he hpl) (ha σ H S _ fun vs H1 s1 r1 => hr σ H1 vs (S.same s1) r1 Q fun v H2 s2 r2 => q v H2 (s1.trans s2) r2)
theorem ee_callTy {T : String} {x : Str} {p : Pos} {r : List V → Hp → VK → Prop} (hc : CallR X (.type T) r) (ha : EAl X C ρ (e :: es) ds) (hr : ∀ σ H vs, SRel X.K C H σ ρ → Reps X.K H vs ds → ∀ Q : VK, (∀ v H', Same H H' → Rep X.K (vis C (ows ρ) H') v d → Q v H') → r vs H Q)
    (hm : X.mg x = none) (hv : bootBuiltins x = some (.type T) := by decide +kernel) (hg : Gl X x := by rfl) (hn : x ≠ "__name__" := by decide) (hdb : (x == ("__debug__" : Str)) = false := by decide)
    (he : starEach (e :: es) X.env = (false, eval e X.env) :: starEach es X.env := by rfl) (hpl : (backTo pos (starEach es X.env)).any (·.1) = false := by rfl) : EE X C ρ (.Call (.Name x p) (e :: es) [] pos) d := fun σ H S Q q =>
  wpE_of (pe_callTy hc hg hm hv pa_wp hn hdb he hpl) (ha σ H S _ fun vs H1 s1 r1 => hr σ H1 vs (S.same s1) r1 Q fun v H2 s2 r2 => q v H2 (s1.trans s2) r2)
theorem ee_abs {i : Int} {p : Pos} (hm : X.mg "abs" = none) (ha : EE X C ρ e (.int i)) (hg : Gl X "abs" := by rfl) (he : starEach [e] X.env = (false, eval e X.env) :: starEach [] X.env := by rfl) : EE X C ρ (.Call (.Name "abs" p) [e] [] pos) (.int i.natAbs) :=
  ee_callB call_abs (eal_cons ha eal_nil he) (fun σ H vs S r Q q => by
    obtain ⟨v, rfl, r1⟩ := r.one
    cases r1
    refine ⟨i, rfl, ?_⟩
    rw [show (if i < 0 then -i else i) = (i.natAbs : Int) by split <;> omega]
    exact q _ H (Same.refl H) (.at _)) hm (by decide +kernel) hg (by decide) (by decide) he rfl
theorem reps2 {K : PySem.W.Frag} {H : Hp} {vs : List V} {d d' : D} (h : Reps K H vs [d, d']) : ∃ v u, vs = [v, u] ∧ Rep K H v d ∧ Rep K H u d' := by
  cases h with
  | cons r t =>
    cases t with
    | cons r' t' =>
      cases t'
      exact ⟨_, _, rfl, r, r'⟩
theorem ee_max2 {i j : Int} {p : Pos} (hm : X.mg "max" = none) (ha : EE X C ρ a (.int i)) (hb : EE X C ρ b (.int j)) (hc : X.calm = true := by rfl) (hg : Gl X "max" := by rfl) (he : starEach [a, b] X.env = (false, eval a X.env) :: starEach [b] X.env := by rfl) (he2 : starEach [b] X.env = (false, eval b X.env) :: starEach [] X.env := by rfl)
    (hpl : (backTo pos (starEach [b] X.env)).any (·.1) = false := by rfl) : EE X C ρ (.Call (.Name "max" p) [a, b] [] pos) (.int (max i j)) :=
  ee_callB (call_max2 hc) (eal_cons ha (eal_cons hb eal_nil he2) he) (fun σ H vs S r Q q => by
    obtain ⟨v, u, rfl, r1, r2⟩ := reps2 r
    cases r1
    cases r2
    refine ⟨i, j, rfl, ?_⟩
    rw [show (if j > i then j else i) = max i j by rw [Int.max_def]; split <;> split <;> omega]
    exact q _ H (Same.refl H) (.at _)) hm (by decide +kernel) hg (by decide) (by decide) he hpl
theorem ee_min2 {i j : Int} {p : Pos} (hm : X.mg "min" = none) (ha : EE X C ρ a (.int i)) (hb : EE X C ρ b (.int j)) (hc : X.calm = true := by rfl) (hg : Gl X "min" := by rfl) (he : starEach [a, b] X.env = (false, eval a X.env) :: starEach [b] X.env := by rfl) (he2 : starEach [b] X.env = (false, eval b X.env) :: starEach [] X.env := by rfl)
    (hpl : (backTo pos (starEach [b] X.env)).any (·.1) = false := by rfl) : EE X C ρ (.Call (.Name "min" p) [a, b] [] pos) (.int (min i j)) :=
  ee_callB (call_min2 hc) (eal_cons ha (eal_cons hb eal_nil he2) he) (fun σ H vs S r Q q => by
    obtain ⟨v, u, rfl, r1, r2⟩ := reps2 r
    cases r1
    cases r2
    refine ⟨i, j, rfl, ?_⟩
    rw [show (if j < i then j else i) = min i j by rw [Int.min_def]; split <;> split <;> omega]
    exact q _ H (Same.refl H) (.at _)) hm (by decide +kernel) hg (by decide) (by decide) he hpl
theorem ee_lenL {p : Pos} (hm : X.mg "len" = none) (ha : EL X C ρ e ds) (hg : Gl X "len" := by rfl) (he : starEach [e] X.env = (false, eval e X.env) :: starEach [] X.env := by rfl) : EE X C ρ (.Call (.Name "len" p) [e] [] pos) (.int ds.length) :=
  ee_callB call_len_seq (eal_consL ha eal_nil he) (fun σ H vs S r Q q => by
    obtain ⟨v, rfl, r1⟩ := r.one
    cases r1 with
    | lst sq rs =>
      refine ⟨_, _, rfl, .inl sq, ?_⟩
      rw [rs.length]
      exact q _ H (Same.refl H) (.at _)) hm PySem.boot_len hg (by decide) (by decide) he rfl
theorem ee_lenT {p : Pos} (hm : X.mg "len" = none) (ha : EE X C ρ e (.tup ds)) (hg : Gl X "len" := by rfl) (he : starEach [e] X.env = (false, eval e X.env) :: starEach [] X.env := by rfl) : EE X C ρ (.Call (.Name "len" p) [e] [] pos) (.int ds.length) :=
  ee_callB call_len_seq (eal_cons ha eal_nil he) (fun σ H vs S r Q q => by
    obtain ⟨v, rfl, r1⟩ := r.one
    cases r1 with
    | tup sq rs =>
      refine ⟨_, _, rfl, .inr (tq sq), ?_⟩
      rw [rs.length]
      exact q _ H (Same.refl H) (.at _)) hm PySem.boot_len hg (by decide) (by decide) he rfl
theorem ee_sum {ns : List Int} {p : Pos} (hm : X.mg "sum" = none) (ha : EL X C ρ e (D.ints ns)) (hc : X.calm = true := by rfl) (hg : Gl X "sum" := by rfl) (he : starEach [e] X.env = (false, eval e X.env) :: starEach [] X.env := by rfl) : EE X C ρ (.Call (.Name "sum" p) [e] [] pos) (.int ns.sum) :=
  ee_callB (cr_sum hc) (eal_consL ha eal_nil he) (fun σ H vs S r Q q => by
    obtain ⟨v, rfl, r1⟩ := r.one
    cases r1 with
    | lst sq rs =>
      have e1 := rs.ints
      subst e1
      exact ⟨_, ns, rfl, sq, q _ H (Same.refl H) (.at _)⟩) hm (by decide +kernel) hg (by decide) (by decide) he rfl
theorem ee_intB {p : Pos} (hm : X.mg "int" = none) (ha : EE X C ρ e (.bl k)) (hg : Gl X "int" := by rfl) (he : starEach [e] X.env = (false, eval e X.env) :: starEach [] X.env := by rfl) : EE X C ρ (.Call (.Name "int" p) [e] [] pos) (.int (if k then 1 else 0)) :=
  ee_callTy call_int1 (eal_cons ha eal_nil he) (fun σ H vs S r Q q => by
    obtain ⟨v, rfl, r1⟩ := r.one
    cases r1
    exact .inr ⟨k, rfl, q _ H (Same.refl H) (.at _)⟩) hm (by decide +kernel) hg (by decide) (by decide) he rfl
end
end DL

namespace DL
open PySem PySem.Spec PyProof.Rows L2
section
variable {X : Cx} {C : Ctx} {ρ : Rho} {e a b c : Expr} {es rest : List Expr} {d da db : D} {ds : List D} {pos : Pos} {k k' : Bool}
/-! ### tuple(..), list(..) -/
theorem ee_tupleL {p : Pos} (hm : X.mg "tuple" = none) (ha : EL X C ρ e ds) (hg : Gl X "tuple" := by rfl) (he : starEach [e] X.env = (false, eval e X.env) :: starEach [] X.env := by rfl) : EE X C ρ (.Call (.Name "tuple" p) [e] [] pos) (.tup ds) := fun σ H S Q q =>
  wpE_of (pe_callTy call_tuple_of hg hm (by decide +kernel) (pa_cons pe_wp pa_nil he) (by decide) (by decide) he rfl) (ha σ H S _ fun a xs H1 s1 l r1 => ⟨a, xs, rfl, .inl ⟨l, fun z nz => by
    have S1 := S.same s1
    refine q _ _ (s1.trans (same_upd nz)) ?_
    rw [S1.visNew nz]
    exact .tup upd_same (Reps.mono (same_upd (S1.visIn.free nz)) _ r1)⟩⟩)
theorem ee_tupleT {p : Pos} (hm : X.mg "tuple" = none) (ha : EE X C ρ e (.tup ds)) (hg : Gl X "tuple" := by rfl) (he : starEach [e] X.env = (false, eval e X.env) :: starEach [] X.env := by rfl) : EE X C ρ (.Call (.Name "tuple" p) [e] [] pos) (.tup ds) := fun σ H S Q q =>
  wpE_of (pe_callTy call_tuple_of hg hm (by decide +kernel) (pa_cons pe_wp pa_nil he) (by decide) (by decide) he rfl) (ha σ H S _ fun v H1 s1 r1 => by
    cases r1 with
    | tup sq rs => exact ⟨_, _, rfl, .inr ⟨Same.seqT (S.same s1).visIn (tq sq), q _ H1 s1 (.tup sq rs)⟩⟩)
theorem vis_upd_ne {C : Ctx} {o : List Addr} {H : Hp} {z y : Addr} {x : HO} (n : y ≠ z) : vis C (z :: o) (upd H z x) y = vis C o H y := by
  unfold vis
  rw [upd_ne n]
  simp [n]
/-- what was seen is seen beside a new list -/
theorem same_visUpd {C : Ctx} {o : List Addr} {H : Hp} {z : Addr} {x : HO} (i : Same (vis C o H) H) (n : H z = none) : Same (vis C o H) (vis C (z :: o) (upd H z x)) := fun y u hy => by
  rw [vis_upd_ne (ne_of_none (i _ _ hy) n)]
  exact hy
theorem ef_listL {p : Pos} (hm : X.mg "list" = none) (ha : EL X C ρ e ds) (hg : Gl X "list" := by rfl) (he : starEach [e] X.env = (false, eval e X.env) :: starEach [] X.env := by rfl) : EF X C ρ (.Call (.Name "list" p) [e] [] pos) ds := fun σ H S Q q =>
  wpE_of (pe_callTy call_list_of hg hm (by decide +kernel) (pa_cons pe_wp pa_nil he) (by decide) (by decide) he rfl) (ha σ H S _ fun a xs H1 s1 l r1 => ⟨a, xs, rfl, .inl l, fun z nz => by
    have S1 := S.same s1
    exact q z xs _ (s1.free nz) (s1.trans (same_upd nz)) upd_same (Reps.mono (same_visUpd S1.visIn nz) _ r1)⟩)
theorem ef_listT {p : Pos} (hm : X.mg "list" = none) (ha : EE X C ρ e (.tup ds)) (hg : Gl X "list" := by rfl) (he : starEach [e] X.env = (false, eval e X.env) :: starEach [] X.env := by rfl) : EF X C ρ (.Call (.Name "list" p) [e] [] pos) ds := fun σ H S Q q =>
  wpE_of (pe_callTy call_list_of hg hm (by decide +kernel) (pa_cons pe_wp pa_nil he) (by decide) (by decide) he rfl) (ha σ H S _ fun v H1 s1 r1 => by
    cases r1 with
    | tup sq rs => exact ⟨_, _, rfl, .inr (Same.seqT (S.same s1).visIn (tq sq)), fun z nz => by
        have S1 := S.same s1
        exact q z _ _ (s1.free nz) (s1.trans (same_upd nz)) upd_same (Reps.mono (same_visUpd S1.visIn nz) _ rs)⟩)

/-! ### classes as values, isinstance -/
theorem ee_cls {x : Str} {Cl : Addr} (hm : X.mg x = some (.ref Cl)) (hg : Gl X x := by rfl) (hd : (x == ("__debug__" : Str)) = false := by decide) : EE X C ρ (.Name x pos) (.at (.ref Cl)) := ee_c (pe_glob hg hm rfl hd)
theorem ee_ty {x : Str} {T : String} (hm : X.mg x = none) (hv : bootBuiltins x = some (.type T) := by decide +kernel) (hg : Gl X x := by rfl) (hn : x ≠ "__name__" := by decide) (hd : (x == ("__debug__" : Str)) = false := by decide) : EE X C ρ (.Name x pos) (.at (.ty T)) := ee_c (pe_bltn hg hm hv rfl hn hd)
/-- a module's int -/
theorem ee_gint {x : Str} {i : Int} (hm : ∃ t, X.mg x = some (.int i t)) (hg : Gl X x := by rfl) (hd : (x == ("__debug__" : Str)) = false := by decide) : EE X C ρ (.Name x pos) (.int i) := by
  obtain ⟨t, h⟩ := hm
  exact ee_c (pe_glob hg h ⟨t, rfl⟩ hd)
def D.tyN : D → Option String
  | .at .non => some "NoneType"
  | .at (.bl _) => some "bool"
  | .at (.int _) => some "int"
  | .at (.str _) => some "str"
  | .at _ => none
  | .tup _ => some "tuple"
  | .lst _ => some "list"
  | .exc _ => none
  | .obj _ _ _ => none
  | .dct => some "dict"
  | .any => none
theorem tyx_of {K : PySem.W.Frag} {H : Hp} {v : V} {d : D} {n : String} (r : Rep K H v d) (h : d.tyN = some n) : TyX K H v (.type n) := by
  cases d with
  | «at» w =>
    cases r
    cases v with
    | non => cases h; exact .base .non
    | bl b => cases h; exact .base (.bl b)
    | int b => cases h; exact .base (.int b)
    | str b => cases h; exact .base (.str b)
    | byt _ => cases h
    | flt _ => cases h
    | ref _ => cases h
    | ty _ => cases h
  | tup l =>
    cases h
    cases r with
    | tup s _ => exact .base (.tup s)
  | lst l =>
    cases h
    cases r with
    | lst s _ =>
      rcases s with (s | ⟨o, s⟩) | ⟨o, its, n, s, c, _⟩
      · exact .base (.lst s)
      · exact .base (.frz s)
      · exact .kList s c
  | exc _ => cases h
  | obj _ _ _ => cases h
  | dct =>
    cases h
    cases r with
    | dct s => exact .base (.dK s)
  | any => cases h
theorem ee_isi {p : Pos} {n m : String} (r : Bool) (hm : X.mg "isinstance" = none) (ha : EAl X C ρ [a, b] [d, .at (.ty m)]) (hn : d.tyN = some n) (hr : kitB n m = some r) (hg : Gl X "isinstance" := by rfl) (he : starEach [a, b] X.env = (false, eval a X.env) :: starEach [b] X.env := by rfl)
    (hpl : (backTo pos (starEach [b] X.env)).any (·.1) = false := by rfl) : EE X C ρ (.Call (.Name "isinstance" p) [a, b] [] pos) (.bl r) :=
  ee_callB call_isi ha (fun σ H vs S rr Q q => by
    obtain ⟨v, u, rfl, r1, r2⟩ := reps2 rr
    cases r2
    exact ⟨v, _, _, _, r, rfl, .ty m, tyx_of r1 hn, kit_ty hr, q _ H (Same.refl H) (.at _)⟩) hm (by decide +kernel) hg (by decide) (by decide) he hpl
/-- isinstance(x, (list, tuple)) -/
theorem ee_isiT {p : Pos} {n : String} {ms : List String} (r : Bool) {x1 : Nat} {tp : Pos} (hm : X.mg "isinstance" = none) (ha : EE X C ρ a d) (hb : EA X C ρ es (ms.map fun m => .at (.ty m))) (hn : d.tyN = some n) (hr : PySem.W.kitAny X.K (.type n) (ms.map Value.type) = some r) (hg : Gl X "isinstance" := by rfl)
    (he : starEach [a, .Tuple es x1 tp] X.env = (false, eval a X.env) :: starEach [.Tuple es x1 tp] X.env := by rfl) (he2 : starEach [.Tuple es x1 tp] X.env = (false, eval (.Tuple es x1 tp) X.env) :: starEach [] X.env := by rfl)
    (hpl : (backTo pos (starEach [.Tuple es x1 tp] X.env)).any (·.1) = false := by rfl) (hl : ms.length ≤ sizeLine := by (show _ ≤ 16777216; decide)) : EE X C ρ (.Call (.Name "isinstance" p) [a, .Tuple es x1 tp] [] pos) (.bl r) := fun σ H S Q q =>
  wpE_of (pe_callB call_isiT hg hm (by decide +kernel) (pa_cons pe_wp (pa_cons (pe_tup pa_wp) pa_nil he2) he) (by decide) (by decide) he hpl) (ha σ H S _ fun v H1 s1 r1 => hb σ H1 (S.same s1) _ fun vs H2 s2 r2 => by
    have e1 : vs = ms.map V.ty := by
      have r3 : Reps X.K (vis C (ows ρ) H2) vs ((ms.map V.ty).map D.at) := by rw [List.map_map]; exact r2
      exact r3.ats
    subst e1
    refine ⟨by rw [List.length_map]; exact hl, fun z nz => ?_⟩
    have S2 := (S.same s1).same s2
    have nn : Same H2 (upd H2 z (.tup (ms.map V.ty))) := same_upd nz
    refine ⟨v, z, ms.map V.ty, .type n, ms.map Value.type, r, rfl, upd_same, ?_, tyx_of (Rep.mono nn _ (Rep.mono s2 _ (Rep.mono (S.same s1).visIn _ r1))) hn, hr, q _ _ ((s1.trans s2).trans nn) (.at _)⟩
    clear r2 hb hr nn hl
    induction ms with
    | nil => exact .nil
    | cons m ms ih => exact .cons (.ty m) ih)
/-- isinstance of an exception that was caught -/
def rIsX (K : PySem.W.Frag) : List V → Hp → VK → Prop := fun xs H Q => ∃ (a Cl : Addr) (c : V) (cv : Value) (r : Bool), xs = [.ref a, c] ∧ H a = some (ExF Cl a) ∧ ExcC K Cl ∧ ClsV c cv ∧ PySem.W.kitOne K (.ref Cl) cv = some r ∧ Q (.bl r) H
theorem call_isX : CallR X (.builtin "isinstance") (rIsX X.K) := by
  intro pins s σ H xs us Q I r h
  obtain ⟨a, Cl, c, cv, b, rfl, hH, EC, hcv, e, q⟩ := h
  obtain ⟨u1, u2, rfl, r1, r2⟩ := vals2 r
  have e2 := hcv.eq r2
  subst e2
  cases (show u1 = Value.ref a from r1)
  have hx := I.hok a _ hH
  obtain ⟨⟨oe, vs, hget, hz, hv⟩, _, _⟩ := hx
  have J : PySem.W.InstAt s.heap a oe Cl none := by
    obtain ⟨oc, od, oda, osl⟩ := oe
    obtain ⟨h1, h2⟩ := hz
    dsimp only at h1 h2 hv
    subst h1 h2 hv
    exact ⟨hget, rfl, rfl, trivial⟩
  exact PySem.W.kia_one (PySem.W.handS_kitx_exc EC.hg EC.hk EC.hs EC.hd EC.ha EC.hn EC.ht EC.hm) I.kIn J e (fun z => nomatch z) fun tk => ⟨.bl b, H, I.kept (t' := tk) fun _ _ z => z, rfl, q⟩
theorem ee_isX {p : Pos} {Cl : Addr} {cv : V} {cw : Value} {r : Bool} (hm : X.mg "isinstance" = none) {n : Str} (hn : clsOf X.K n = some Cl) (E : ExcC X.K Cl) (ha : EE X C ρ a (.exc n)) (hb : EE X C ρ b (.at cv)) (hk : ClsV cv cw) (hr : PySem.W.kitOne X.K (.ref Cl) cw = some r) (hg : Gl X "isinstance" := by rfl) (he : starEach [a, b] X.env = (false, eval a X.env) :: starEach [b] X.env := by rfl)
    (he2 : starEach [b] X.env = (false, eval b X.env) :: starEach [] X.env := by rfl) (hpl : (backTo pos (starEach [b] X.env)).any (·.1) = false := by rfl) : EE X C ρ (.Call (.Name "isinstance" p) [a, b] [] pos) (.bl r) :=
  ee_callB call_isX (eal_cons ha (eal_cons hb eal_nil he2) he) (fun σ H vs S rr Q q => by
    obtain ⟨v, u, rfl, r1, r2⟩ := reps2 rr
    cases r2
    cases r1 with
    | exc hc hx =>
      rw [hn] at hc
      cases hc
      exact ⟨_, Cl, _, cw, r, rfl, hx, E, hk, hr, q _ H (Same.refl H) (.at _)⟩) hm (by decide +kernel) hg (by decide) (by decide) he hpl

/-! ### own defs -/
inductive Ret where
  | im (d : D)
  | fr (ds : List D)
inductive Res where
  | ok (r : Ret)
  | er (x : Str)
def RetR (K : PySem.W.Frag) (C : Ctx) (H : Hp) (v : V) : Ret → Prop
  | .im d => Rep K (vis C [] H) v d
  | .fr ds => ∃ a xs, v = .ref a ∧ C.H0 a = none ∧ H a = some (.lst xs) ∧ Reps K (vis C [a] H) xs ds
/-- a def over data: its arguments, what it asks of them, what it hands back -/
def spF {α : Type} (K : PySem.W.Frag) (arg : α → List D) (pre : α → Prop) (res : α → Res) : Sp := fun vs H Q E => ∃ (G : Hp) (x : α), Same G H ∧ Reps K G vs (arg x) ∧ pre x ∧
  (∀ r v H', res x = .ok r → Same H H' → RetR K ⟨H, G, []⟩ H' v r → Q v H') ∧ (∀ n c H', res x = .er n → clsOf K n = some c → Same H H' → E (.ref c) none H')
structure Cal (P : Program) (w : World) (K : PySem.W.Frag) (mg : Str → Option Value) (base : Heap) (k : Nat) (x : Str) (ps : List Str) (sp : Sp) : Prop where
  ex : ∃ (f : Addr) (fd : FuncData) (CX : CXT), mg x = some (.ref f) ∧ PySem.W.keepIn K (.ref f) = true ∧ Binds K fd ps [] ∧ FnOk P w K mg base CX k f fd ps sp ∧ ∀ X : Cx, X.prog = P → X.w = w → Passes CX X E0
/-- .. that may raise -/
structure CalX (P : Program) (w : World) (K : PySem.W.Frag) (mg : Str → Option Value) (base : Heap) (k : Nat) (x : Str) (ps : List Str) (sp : Sp) : Prop where
  ex : ∃ (f : Addr) (fd : FuncData), mg x = some (.ref f) ∧ PySem.W.keepIn K (.ref f) = true ∧ Binds K fd ps [] ∧ FnOk P w K mg base (L2.CX P w) k f fd ps sp
theorem CalX.cal {P : Program} {w : World} {K : PySem.W.Frag} {mg : Str → Option Value} {base : Heap} {k : Nat} {x : Str} {ps : List Str} {sp : Sp} (h : CalX P w K mg base k x ps sp) : Cal P w K mg base k x ps sp := by
  obtain ⟨f, fd, h1, h2, h3, h4⟩ := h.ex
  exact ⟨f, fd, _, h1, h2, h3, h4, fun X e1 e2 => by subst e1 e2; exact passL⟩
/-- the callee's ground is seen by the caller -/
theorem vis_callee {C : Ctx} {o l : List Addr} {H H' : Hp} (s0 : Same C.H0 H) (no : ∀ a, a ∈ o ∨ a ∈ C.hid → H a ≠ none) (hl : ∀ a ∈ l, H a = none) (s : Same H H') : Same (vis ⟨H, vis C o H, []⟩ l H') (vis C (l ++ o) H') := fun b x h => by
  unfold vis at h
  split at h
  · rename_i q
    have q' : (H b).isSome = true := q
    have nl : b ∉ l := fun z => by rw [hl b z] at q'; cases q'
    by_cases ht : atT (H b) = true
    · have h' : H b = some x := by
        have h0 : Ctx.see ⟨H, vis C o H, []⟩ b = some x := h
        unfold Ctx.see at h0
        rw [if_pos (show atT ((⟨H, vis C o H, []⟩ : Ctx).H0 b) = true from ht)] at h0
        exact h0
      obtain ⟨xs, e⟩ := atT_some ht
      rw [e] at h' ht
      cases h'
      exact vis_at_tup (s0.trans s) (s _ _ e) ht
    · have h' : vis C o H b = some x := by
        have h0 : Ctx.see ⟨H, vis C o H, []⟩ b = some x := h
        unfold Ctx.see at h0
        rw [if_neg (show ¬ atT ((⟨H, vis C o H, []⟩ : Ctx).H0 b) = true from ht)] at h0
        exact h0
      have h2 := vis_same (C := C) (o := o) s _ _ h'
      unfold vis at h2 ⊢
      split at h2
      · rename_i q2; rw [if_pos q2]; exact h2
      · rename_i q2
        split at h2
        · cases h2
        · rename_i q3
          rw [if_neg q2, if_neg]
          · exact h2
          · intro z
            obtain ⟨z, zt⟩ := z
            rcases z with z | z
            · rcases List.mem_append.mp z with z | z
              · exact nl z
              · exact q3 ⟨.inl z, zt⟩
            · exact q3 ⟨.inr z, zt⟩
  · rename_i q
    have q' : H b = none := by
      have q2 : ¬ (H b).isSome = true := q
      cases e : H b with
      | none => rfl
      | some u => rw [e] at q2; exact absurd rfl q2
    split at h
    · cases h
    · rename_i nl
      have n0 : C.H0 b = none := s0.free q'
      unfold vis
      rw [n0, if_neg (by simp), if_neg]
      · exact h
      · intro z
        obtain ⟨z, zt⟩ := z
        rcases z with z | z
        · rcases List.mem_append.mp z with z | z
          · exact nl ⟨.inl z, zt⟩
          · exact no b (.inl z) q'
        · exact no b (.inr z) q'
variable {α : Type} {arg : α → List D} {pre : α → Prop} {res : α → Res} {k : Nat} {x : Str} {ps : List Str} {p : Pos}
/-- a call of an own def: data -/
theorem ee_call (y : α) (F : Cal X.prog X.w X.K X.mg X.base k x ps (spF X.K arg pre res)) (hr : Room k X.A) (ha : EA X C ρ (e :: es) (arg y)) (hp : pre y) (hd : res y = .ok (.im d)) (hg : Gl X x := by rfl) (hdb : (x == ("__debug__" : Str)) = false := by decide)
    (he : starEach (e :: es) X.env = (false, eval e X.env) :: starEach es X.env := by rfl) (hpl : (backTo pos (starEach es X.env)).any (·.1) = false := by rfl) : EE X C ρ (.Call (.Name x p) (e :: es) [] pos) d := fun σ H S Q q => by
  obtain ⟨f, fd, CX, hm, hk, hb, F, hx⟩ := F.ex
  refine wpE_of (pe_call (dvs := []) F hr hg hm hk hb .nil (hx X rfl rfl) pa_wp hdb he hpl) (ha σ H S _ fun vs H1 s1 r1 => ?_)
  have S1 := S.same s1
  rw [List.append_nil]
  refine ⟨vis C (ows ρ) H1, y, S1.visIn, r1, hp, fun r v H2 hr2 s2 rr => ?_, fun n c H2 hr2 _ _ => by rw [hd] at hr2; cases hr2⟩
  rw [hd] at hr2
  cases hr2
  exact q v H2 (s1.trans s2) (Rep.mono (vis_callee (l := []) S1.hh (fun a h => (S1.fr a h).2) (fun _ z => absurd z List.not_mem_nil) s2) _ rr)
/-- .. a new list -/
theorem ef_call (y : α) (F : Cal X.prog X.w X.K X.mg X.base k x ps (spF X.K arg pre res)) (hr : Room k X.A) (ha : EA X C ρ (e :: es) (arg y)) (hp : pre y) (hd : res y = .ok (.fr ds)) (hg : Gl X x := by rfl) (hdb : (x == ("__debug__" : Str)) = false := by decide)
    (he : starEach (e :: es) X.env = (false, eval e X.env) :: starEach es X.env := by rfl) (hpl : (backTo pos (starEach es X.env)).any (·.1) = false := by rfl) : EF X C ρ (.Call (.Name x p) (e :: es) [] pos) ds := fun σ H S Q q => by
  obtain ⟨f, fd, CX, hm, hk, hb, F, hx⟩ := F.ex
  refine wpE_of (pe_call (dvs := []) F hr hg hm hk hb .nil (hx X rfl rfl) pa_wp hdb he hpl) (ha σ H S _ fun vs H1 s1 r1 => ?_)
  have S1 := S.same s1
  rw [List.append_nil]
  refine ⟨vis C (ows ρ) H1, y, S1.visIn, r1, hp, fun r v H2 hr2 s2 rr => ?_, fun n c H2 hr2 _ _ => by rw [hd] at hr2; cases hr2⟩
  rw [hd] at hr2
  cases hr2
  obtain ⟨a, xs, rfl, n, l, rs⟩ := rr
  have n' : H1 a = none := n
  refine q a xs H2 (s1.free n') (s1.trans s2) l (Reps.mono (vis_callee (l := [a]) S1.hh (fun a h => (S1.fr a h).2) (fun b z => ?_) s2) _ rs)
  have e : b = a := by simpa using z
  rw [e]
  exact n'
/-- a call with one's own lists among the arguments; a scalar comes back -/
theorem ee_callL {v : V} (y : α) (F : Cal X.prog X.w X.K X.mg X.base k x ps (spF X.K arg pre res)) (hr : Room k X.A) (ha : EAl X C ρ (e :: es) (arg y)) (hp : pre y) (hd : res y = .ok (.im (.at v))) (hg : Gl X x := by rfl) (hdb : (x == ("__debug__" : Str)) = false := by decide)
    (he : starEach (e :: es) X.env = (false, eval e X.env) :: starEach es X.env := by rfl) (hpl : (backTo pos (starEach es X.env)).any (·.1) = false := by rfl) : EE X C ρ (.Call (.Name x p) (e :: es) [] pos) (.at v) := fun σ H S Q q => by
  obtain ⟨f, fd, CX, hm, hk, hb, F, hx⟩ := F.ex
  refine wpE_of (pe_call (dvs := []) F hr hg hm hk hb .nil (hx X rfl rfl) pa_wp hdb he hpl) (ha σ H S _ fun vs H1 s1 r1 => ?_)
  rw [List.append_nil]
  refine ⟨H1, y, Same.refl _, r1, hp, fun r v H2 hr2 s2 rr => ?_, fun n c H2 hr2 _ _ => by rw [hd] at hr2; cases hr2⟩
  rw [hd] at hr2
  cases hr2
  cases rr
  exact q _ H2 (s1.trans s2) (.at _)
end
end DL

namespace DL
open PySem PySem.Spec PyProof.Rows L2
/-! ### what is wanted behind statements -/
structure Post where
  nx : Rho → Prop
  rt : Ret → Prop
  bk : Rho → Prop := fun _ => False
  ct : Rho → Prop := fun _ => False
  er : Str → Rho → Prop := fun _ _ => False
structure Lk (X : Cx) (C : Ctx) (V0 : Hp) (P : Post) (D : Ends) : Prop where
  nx : ∀ ρ σ H, P.nx ρ → SRel X.K C H σ ρ → Same V0 (vis C (ows ρ) H) → D.nx σ H
  bk : ∀ ρ σ H, P.bk ρ → SRel X.K C H σ ρ → Same V0 (vis C (ows ρ) H) → D.bk σ H
  ct : ∀ ρ σ H, P.ct ρ → SRel X.K C H σ ρ → Same V0 (vis C (ows ρ) H) → D.ct σ H
  rt : ∀ r v H, P.rt r → Same C.H0 H → RetR X.K C H v r → D.rt v H
  tk : ∃ W, Takes X W ∧ ∀ n c ρ σ H, P.er n ρ → clsOf X.K n = some c → SRel X.K C H σ ρ → Same V0 (vis C (ows ρ) H) → W (.ref c) none σ H
theorem Lk.later {X : Cx} {C : Ctx} {V0 V1 : Hp} {P : Post} {D : Ends} (L : Lk X C V0 P D) (s : Same V0 V1) : Lk X C V1 P D :=
  ⟨fun ρ σ H h S z => L.nx ρ σ H h S (s.trans z), fun ρ σ H h S z => L.bk ρ σ H h S (s.trans z), fun ρ σ H h S z => L.ct ρ σ H h S (s.trans z), L.rt, by
    obtain ⟨W, h1, h2⟩ := L.tk
    exact ⟨W, h1, fun n c ρ σ H h k S z => h2 n c ρ σ H h k S (s.trans z)⟩⟩
def wpSs (X : Cx) (st : List Stmt) : TS := fun D σ H => ∀ pins s, Inv X pins σ H s → wpAny (model X.prog X.w) X.A (execs st X.env) (SP X pins D) X.xe s
def wpS (X : Cx) (st : Stmt) : TS := fun D σ H => ∀ pins s, Inv X pins σ H s → wpAny (model X.prog X.w) X.A (exec st X.env) (SP X pins D) X.xe s
def wpG (X : Cx) (tg : Expr) : TG := fun v σ H Q => ∀ pins s u, Inv X pins σ H s → RelV v u → wpAny (model X.prog X.w) X.A (assign tg X.env u) (fun _ s' => ∃ σ' H', Inv X pins σ' H' s' ∧ Q σ' H') X.xe s
section
variable {X : Cx}
theorem pss_wp {st : List Stmt} : PSs X st (wpSs X st) := ⟨fun pins s _ _ _ I h => h pins s I⟩
theorem ps_wp {st : Stmt} : PS X st (wpS X st) := ⟨fun pins s _ _ _ I h => h pins s I⟩
theorem pg_wp {tg : Expr} : PG X tg (wpG X tg) := ⟨fun pins s _ _ _ u _ I r h => h pins s u I r⟩
theorem wpSs_of {st : List Stmt} {t : TS} (h : PSs X st t) {D : Ends} {σ : L2.St} {H : Hp} (q : t D σ H) : wpSs X st D σ H := fun pins s I => h.run pins s σ H D I q
theorem wpS_of {st : Stmt} {t : TS} (h : PS X st t) {D : Ends} {σ : L2.St} {H : Hp} (q : t D σ H) : wpS X st D σ H := fun pins s I => h.run pins s σ H D I q
theorem wpG_of {tg : Expr} {t : TG} (h : PG X tg t) {v : V} {σ : L2.St} {H : Hp} {Q : L2.St → Hp → Prop} (q : t v σ H Q) : wpG X tg v σ H Q := fun pins s u I r => h.run pins s σ H v u Q I r q
end
def WP (X : Cx) (C : Ctx) (ρ : Rho) (st : List Stmt) (P : Post) : Prop := ∀ σ H D, SRel X.K C H σ ρ → Lk X C (vis C (ows ρ) H) P D → wpSs X st D σ H
def WS (X : Cx) (C : Ctx) (ρ : Rho) (st : Stmt) (P : Post) : Prop := ∀ σ H D, SRel X.K C H σ ρ → Lk X C (vis C (ows ρ) H) P D → wpS X st D σ H

/-! ### slots -/
theorem ows_set_sub {i : Nat} {x : En} {ρ : Rho} {b : Addr} (h : b ∈ ows (ρ.set i x)) : b ∈ ows ρ ∨ b ∈ x.own := by
  unfold ows at h ⊢
  obtain ⟨e, he, q⟩ := List.mem_flatMap.mp h
  rcases List.mem_or_eq_of_mem_set he with z | z
  · exact .inl (List.mem_flatMap.mpr ⟨e, z, q⟩)
  · subst z; exact .inr q
theorem mem_owsL {ρ : Rho} {a : Addr} {i : Nat} {e : En} (h : ρ[i]? = some e) (q : a ∈ e.own) : a ∈ ows ρ := List.mem_flatMap.mpr ⟨e, List.mem_of_getElem? h, q⟩
theorem mem_ows {ρ : Rho} {a : Addr} {i : Nat} {e : En} (h : ρ[i]? = some e) (q : e.own = [a]) : a ∈ ows ρ := mem_owsL h (by rw [q]; exact List.mem_singleton_self a)
def ownAt (ρ : Rho) (i : Nat) : List Addr := match ρ[i]? with
  | some e => e.own
  | none => []
theorem ownAt_of {ρ : Rho} {i : Nat} {e : En} (h : ρ[i]? = some e) : ownAt ρ i = e.own := by unfold ownAt; rw [h]
theorem ows_split : ∀ (ρ : Rho) (i : Nat) (x : En), i < ρ.length → ∃ l r : List Addr, ows ρ = l ++ ownAt ρ i ++ r ∧ ows (ρ.set i x) = l ++ x.own ++ r
  | [], i, x, h => by simp at h
  | e :: ρ, 0, x, _ => ⟨[], ows ρ, by show List.flatMap En.own (e :: ρ) = _; rw [List.flatMap_cons]; rfl, by show List.flatMap En.own (x :: ρ) = _; rw [List.flatMap_cons]; rfl⟩
  | e :: ρ, i + 1, x, h => by
    obtain ⟨l, r, h1, h2⟩ := ows_split ρ i x (by simpa using h)
    refine ⟨e.own ++ l, r, ?_, ?_⟩
    · show List.flatMap En.own (e :: ρ) = _
      rw [List.flatMap_cons]
      show e.own ++ ows ρ = _
      rw [h1]
      show _ = e.own ++ l ++ ownAt ρ i ++ r
      simp only [List.append_assoc]
    · show List.flatMap En.own (e :: ρ.set i x) = _
      rw [List.flatMap_cons]
      show e.own ++ ows (ρ.set i x) = _
      rw [h2]
      simp only [List.append_assoc]
theorem set_oob {ρ : Rho} {i : Nat} {x : En} (h : ¬ i < ρ.length) : ρ.set i x = ρ := List.set_eq_of_length_le (by omega)
theorem set_oobS {σ : L2.St} {i : Nat} {x : Option V} (h : ¬ i < σ.length) : σ.set i x = σ := List.set_eq_of_length_le (by omega)
/-- two slots don't own the same -/
theorem own_inj {ρ : Rho} {i j : Nat} {e e' : En} {a : Addr} (nd : Disj ρ) (h1 : ρ[i]? = some e) (h2 : ρ[j]? = some e') (o1 : a ∈ e.own) (o2 : a ∈ e'.own) : i = j := nd _ _ _ _ _ h1 h2 o1 o2
theorem ows_at {ρ : Rho} {a : Addr} (h : a ∈ ows ρ) : ∃ (j : Nat) (e : En), ρ[j]? = some e ∧ a ∈ e.own := by
  unfold ows at h
  obtain ⟨e, he, q⟩ := List.mem_flatMap.mp h
  obtain ⟨j, hj, z⟩ := List.getElem_of_mem he
  exact ⟨j, e, by rw [List.getElem?_eq_getElem hj, z], q⟩
/-- what a slot owned is free when it is set anew -/
theorem own_out {ρ : Rho} {i : Nat} {e x : En} {a : Addr} (nd : Disj ρ) (h : ρ[i]? = some e) (ha : a ∈ e.own) (hx : a ∉ x.own) : a ∉ ows (ρ.set i x) := fun z => by
  obtain ⟨j, e', h1, h2⟩ := ows_at z
  have hi : i < ρ.length := (List.getElem?_eq_some_iff.mp h).1
  by_cases hj : j = i
  · subst hj
    rw [List.getElem?_set_self hi] at h1
    cases h1
    exact hx h2
  · rw [List.getElem?_set_ne (Ne.symm hj)] at h1
    exact hj (nd _ _ _ _ _ h1 h h2 ha)
theorem owns_nodup {ρ : Rho} {i : Nat} {x : En} (nd : Disj ρ) (hx : ∀ a ∈ x.own, a ∈ ows ρ → a ∈ ownAt ρ i) : Disj (ρ.set i x) := by
  by_cases hi : i < ρ.length
  · have one : ∀ (k : Nat) (e' : En) (a : Addr), k ≠ i → ρ[k]? = some e' → a ∈ x.own → a ∈ e'.own → False := fun k e' a hk h o1 o2 => by
      have h2 := hx a o1 (mem_owsL h o2)
      unfold ownAt at h2
      split at h2
      · rename_i e0 q
        exact hk (nd _ _ _ _ _ h q o2 h2)
      · cases h2
    intro j k e e' a h1 h2 o1 o2
    by_cases hj : j = i
    · by_cases hk : k = i
      · rw [hj, hk]
      · rw [hj, List.getElem?_set_self hi] at h1
        cases h1
        rw [List.getElem?_set_ne (Ne.symm hk)] at h2
        exact (one k e' a hk h2 o1 o2).elim
    · rw [List.getElem?_set_ne (Ne.symm hj)] at h1
      by_cases hk : k = i
      · rw [hk, List.getElem?_set_self hi] at h2
        cases h2
        exact (one j e a hj h1 o2 o1).elim
      · rw [List.getElem?_set_ne (Ne.symm hk)] at h2
        exact nd _ _ _ _ _ h1 h2 o1 o2
  · rw [set_oob hi]
    exact nd
section
variable {K : PySem.W.Frag} {C : Ctx} {H H' : Hp} {σ : L2.St} {ρ : Rho}
/-- a slot is given data that can be seen -/
theorem SRel.setIm (S : SRel K C H σ ρ) (i : Nat) {v : V} {d : D} (r : Rep K (vis C (ows ρ) H) v d) : SRel K C H (σ.set i (some v)) (ρ.set i (.im d)) ∧ Same (vis C (ows ρ) H) (vis C (ows (ρ.set i (.im d))) H) := by
  have sub : ∀ b, b ∈ ows (ρ.set i (.im d)) → b ∈ ows ρ := fun b hb => (ows_set_sub hb).elim id fun z => absurd z List.not_mem_nil
  have sm : Same (vis C (ows ρ) H) (vis C (ows (ρ.set i (.im d))) H) := vis_sub sub
  by_cases hi : i < ρ.length
  · have hiσ : i < σ.length := by rw [S.len]; exact hi
    refine ⟨⟨by simpa using S.len, S.gh, S.hh, ?_, fun a h => S.fr a (h.imp_left (sub a)), fun a h => S.dj a (sub a h), fun j d' h => ?_, fun j a ds h => ?_, fun j a ds h => ?_, fun j as t h => ?_, fun j a k ds h => ?_⟩, sm⟩
    · exact owns_nodup S.nd fun a h => absurd h List.not_mem_nil
    · by_cases hj : j = i
      · subst hj
        rw [List.getElem?_set_self hi] at h
        cases h
        exact ⟨v, List.getElem?_set_self hiσ, Rep.mono sm _ r⟩
      · rw [List.getElem?_set_ne (Ne.symm hj)] at h ⊢
        obtain ⟨v', h1, h2⟩ := S.im j d' h
        exact ⟨v', h1, Rep.mono sm _ h2⟩
    · have hj : j ≠ i := fun z => by subst z; rw [List.getElem?_set_self hi] at h; cases h
      rw [List.getElem?_set_ne (Ne.symm hj)] at h ⊢
      obtain ⟨h1, xs, h2, h3⟩ := S.ow j a ds h
      exact ⟨h1, xs, h2, Reps.mono sm _ h3⟩
    · have hj : j ≠ i := fun z => by subst z; rw [List.getElem?_set_self hi] at h; cases h
      rw [List.getElem?_set_ne (Ne.symm hj)] at h ⊢
      obtain ⟨h1, xs, h2, h3⟩ := S.od j a ds h
      exact ⟨h1, xs, h2, h3.mono sm⟩
    · have hj : j ≠ i := fun z => by subst z; rw [List.getElem?_set_self hi] at h; cases h
      rw [List.getElem?_set_ne (Ne.symm hj)] at h ⊢
      obtain ⟨v', h1, h2⟩ := S.ot j as t h
      exact ⟨v', h1, RepT.mono sm _ (fun _ _ => rfl) h2⟩
    · have hj : j ≠ i := fun z => by subst z; rw [List.getElem?_set_self hi] at h; cases h
      rw [List.getElem?_set_ne (Ne.symm hj)] at h ⊢
      obtain ⟨h1, xs, o, h2, h3, h4⟩ := S.og j a k ds h
      exact ⟨h1, xs, o, h2, h3, Reps.mono sm _ h4⟩
  · rw [set_oob hi, set_oobS (by rw [S.len]; exact hi)]
    exact ⟨S, Same.refl _⟩
/-- a slot is forgotten -/
theorem SRel.setNo (S : SRel K C H σ ρ) (i : Nat) (x : Option V) : SRel K C H (σ.set i x) (ρ.set i .no) ∧ Same (vis C (ows ρ) H) (vis C (ows (ρ.set i .no)) H) := by
  have sub : ∀ b, b ∈ ows (ρ.set i .no) → b ∈ ows ρ := fun b hb => (ows_set_sub hb).elim id fun z => absurd z List.not_mem_nil
  have sm : Same (vis C (ows ρ) H) (vis C (ows (ρ.set i .no)) H) := vis_sub sub
  by_cases hi : i < ρ.length
  · refine ⟨⟨by simpa using S.len, S.gh, S.hh, ?_, fun a h => S.fr a (h.imp_left (sub a)), fun a h => S.dj a (sub a h), fun j d' h => ?_, fun j a ds h => ?_, fun j a ds h => ?_, fun j as t h => ?_, fun j a k ds h => ?_⟩, sm⟩
    · exact owns_nodup S.nd fun a h => absurd h List.not_mem_nil
    · have hj : j ≠ i := fun z => by subst z; rw [List.getElem?_set_self hi] at h; cases h
      rw [List.getElem?_set_ne (Ne.symm hj)] at h ⊢
      obtain ⟨v', h1, h2⟩ := S.im j d' h
      exact ⟨v', h1, Rep.mono sm _ h2⟩
    · have hj : j ≠ i := fun z => by subst z; rw [List.getElem?_set_self hi] at h; cases h
      rw [List.getElem?_set_ne (Ne.symm hj)] at h ⊢
      obtain ⟨h1, xs, h2, h3⟩ := S.ow j a ds h
      exact ⟨h1, xs, h2, Reps.mono sm _ h3⟩
    · have hj : j ≠ i := fun z => by subst z; rw [List.getElem?_set_self hi] at h; cases h
      rw [List.getElem?_set_ne (Ne.symm hj)] at h ⊢
      obtain ⟨h1, xs, h2, h3⟩ := S.od j a ds h
      exact ⟨h1, xs, h2, h3.mono sm⟩
    · have hj : j ≠ i := fun z => by subst z; rw [List.getElem?_set_self hi] at h; cases h
      rw [List.getElem?_set_ne (Ne.symm hj)] at h ⊢
      obtain ⟨v', h1, h2⟩ := S.ot j as t h
      exact ⟨v', h1, RepT.mono sm _ (fun _ _ => rfl) h2⟩
    · have hj : j ≠ i := fun z => by subst z; rw [List.getElem?_set_self hi] at h; cases h
      rw [List.getElem?_set_ne (Ne.symm hj)] at h ⊢
      obtain ⟨h1, xs, o, h2, h3, h4⟩ := S.og j a k ds h
      exact ⟨h1, xs, o, h2, h3, Reps.mono sm _ h4⟩
  · rw [set_oob hi, set_oobS (by rw [S.len]; exact hi)]
    exact ⟨S, Same.refl _⟩
theorem vis_new_same {C : Ctx} {o : List Addr} {H H' : Hp} {a : Addr} (i : Same (vis C o H) H) (n : H a = none) (s : Same H H') : Same (vis C o H) (vis C (a :: o) H') := fun y u hy => by
  have ny : y ≠ a := ne_of_none (i _ _ hy) n
  have h2 := vis_same (C := C) (o := o) s _ _ hy
  unfold vis at h2 ⊢
  simp only [List.mem_cons, ny, false_or]
  exact h2
/-- a slot is given new objects of one's own; x says what -/
theorem SRel.setOwns (S : SRel K C H σ ρ) (i : Nat) (hi : i < ρ.length) {v : V} {x : En} (n : ∀ a ∈ x.own, H a = none) (s : Same H H') (there : ∀ a ∈ x.own, H' a ≠ none)
    (hw : ∀ a ds, x = .ow a ds → v = .ref a ∧ ∃ xs, H' a = some (.lst xs) ∧ Reps K (vis C (x.own ++ ows ρ) H') xs ds) (hd : ∀ a ds, x = .od a ds → v = .ref a ∧ ∃ xs, H' a = some (.dT xs) ∧ RepKV K (vis C (x.own ++ ows ρ) H') xs ds) (ht : ∀ as d, x = .ot as d → RepT K (vis C (x.own ++ ows ρ) H') H' v d as) (him : ∀ d, x ≠ .im d) (hog : ∀ a k ds, x = .og a k ds → v = .ref a ∧ ∃ xs o, H' a = some o ∧ GForm K k xs o ∧ Reps K (vis C (x.own ++ ows ρ) H') xs ds := by intro _ _ _ z; cases z) :
    SRel K C H' (σ.set i (some v)) (ρ.set i x) ∧ Same (vis C (ows ρ) H) (vis C (ows (ρ.set i x)) H') := by
  have hiσ : i < σ.length := by rw [S.len]; exact hi
  have sub : ∀ b, b ∈ ows (ρ.set i x) → b ∈ x.own ++ ows ρ := fun b hb => (ows_set_sub hb).elim (fun z => List.mem_append_right _ z) fun z => List.mem_append_left _ z
  have sm1 : Same (vis C (x.own ++ ows ρ) H') (vis C (ows (ρ.set i x)) H') := vis_sub sub
  have sm0 : Same (vis C (ows ρ) H) (vis C (x.own ++ ows ρ) H') := fun y u hy => by
    have ny : y ∉ x.own := fun z => by
      have e := S.visIn _ _ hy
      rw [n y z] at e
      cases e
    have h2 := vis_same (C := C) (o := ows ρ) s _ _ hy
    unfold vis at h2 ⊢
    simp only [List.mem_append, ny, false_or]
    exact h2
  have sm := sm0.trans sm1
  have old : ∀ {j : Nat} {e : En}, j ≠ i → ρ[j]? = some e → ∀ a ∈ e.own, H a = H' a := fun {j e} hj h a ha => by
    have k := (S.fr a (.inl (mem_owsL h ha))).2
    cases q : H a with
    | none => exact (k q).elim
    | some o => exact (s _ _ q).symm
  refine ⟨⟨by simpa using S.len, S.gh, S.hh.trans s, ?_, fun b h => ?_, fun b h => ?_, fun j d' h => ?_, fun j b ds h => ?_, fun j b ds h => ?_, fun j as t h => ?_, fun j b k ds h => ?_⟩, sm⟩
  · exact owns_nodup S.nd fun a ha h => ((S.fr a (.inl h)).2 (n a ha)).elim
  · rcases h with h | h
    · rcases List.mem_append.mp (sub b h) with z | z
      · exact ⟨(S.new (n b z)).1, there b z⟩
      · exact ⟨(S.fr b (.inl z)).1, fun q => (S.fr b (.inl z)).2 (s.free q)⟩
    · exact ⟨(S.fr b (.inr h)).1, fun q => (S.fr b (.inr h)).2 (s.free q)⟩
  · rcases List.mem_append.mp (sub b h) with z | z
    · exact (S.new (n b z)).2.2
    · exact S.dj b z
  · have hj : j ≠ i := fun z => by
      subst z
      rw [List.getElem?_set_self hi] at h
      exact him d' (Option.some.inj h)
    rw [List.getElem?_set_ne (Ne.symm hj)] at h ⊢
    obtain ⟨v', h1, h2⟩ := S.im j d' h
    exact ⟨v', h1, Rep.mono sm _ h2⟩
  · by_cases hj : j = i
    · subst hj
      rw [List.getElem?_set_self hi] at h
      have e := Option.some.inj h
      obtain ⟨ev, xs, h1, h2⟩ := hw b ds e
      rw [ev]
      exact ⟨List.getElem?_set_self hiσ, xs, h1, Reps.mono sm1 _ h2⟩
    · rw [List.getElem?_set_ne (Ne.symm hj)] at h ⊢
      obtain ⟨h1, xs, h2, h3⟩ := S.ow j b ds h
      exact ⟨h1, xs, s _ _ h2, Reps.mono sm _ h3⟩
  · by_cases hj : j = i
    · subst hj
      rw [List.getElem?_set_self hi] at h
      have e := Option.some.inj h
      obtain ⟨ev, xs, h1, h2⟩ := hd b ds e
      rw [ev]
      exact ⟨List.getElem?_set_self hiσ, xs, h1, h2.mono sm1⟩
    · rw [List.getElem?_set_ne (Ne.symm hj)] at h ⊢
      obtain ⟨h1, xs, h2, h3⟩ := S.od j b ds h
      exact ⟨h1, xs, s _ _ h2, h3.mono sm⟩
  · by_cases hj : j = i
    · subst hj
      rw [List.getElem?_set_self hi] at h
      have e := Option.some.inj h
      exact ⟨v, List.getElem?_set_self hiσ, RepT.mono sm1 _ (fun _ _ => rfl) (ht as t e)⟩
    · rw [List.getElem?_set_ne (Ne.symm hj)] at h ⊢
      obtain ⟨v', h1, h2⟩ := S.ot j as t h
      exact ⟨v', h1, RepT.mono sm _ (old hj h) h2⟩
  · by_cases hj : j = i
    · subst hj
      rw [List.getElem?_set_self hi] at h
      have e := Option.some.inj h
      obtain ⟨ev, xs, o, h1, h2, h3⟩ := hog b k ds e
      rw [ev]
      exact ⟨List.getElem?_set_self hiσ, xs, o, h1, h2, Reps.mono sm1 _ h3⟩
    · rw [List.getElem?_set_ne (Ne.symm hj)] at h ⊢
      obtain ⟨h1, xs, o, h2, h3, h4⟩ := S.og j b k ds h
      exact ⟨h1, xs, o, s _ _ h2, h3, Reps.mono sm _ h4⟩
theorem SRel.setOwn (S : SRel K C H σ ρ) (i : Nat) (hi : i < ρ.length) {a : Addr} {x : En} (hx : x.own = [a]) (n : H a = none) (s : Same H H') (there : H' a ≠ none)
    (hw : ∀ ds, x = .ow a ds → ∃ xs, H' a = some (.lst xs) ∧ Reps K (vis C (a :: ows ρ) H') xs ds) (hd : ∀ ds, x = .od a ds → ∃ xs, H' a = some (.dT xs) ∧ RepKV K (vis C (a :: ows ρ) H') xs ds) (him : ∀ d, x ≠ .im d) (hot : ∀ as d, x ≠ .ot as d := by intro _ _ z; cases z) (hog : ∀ k ds, x = .og a k ds → ∃ xs o, H' a = some o ∧ GForm K k xs o ∧ Reps K (vis C (a :: ows ρ) H') xs ds := by intro _ _ z; cases z) :
    SRel K C H' (σ.set i (some (.ref a))) (ρ.set i x) ∧ Same (vis C (ows ρ) H) (vis C (ows (ρ.set i x)) H') :=
  S.setOwns i hi (fun b hb => by rw [hx, List.mem_singleton] at hb; rw [hb]; exact n) s (fun b hb => by rw [hx, List.mem_singleton] at hb; rw [hb]; exact there)
    (fun b ds e => by
      have eb : a = b := by rw [e] at hx; exact (List.cons.inj hx).1.symm
      subst eb
      rw [hx]
      exact ⟨rfl, hw ds e⟩) (fun b ds e => by
      have eb : a = b := by rw [e] at hx; exact (List.cons.inj hx).1.symm
      subst eb
      rw [hx]
      exact ⟨rfl, hd ds e⟩) (fun as d e => (hot as d e).elim) him (fun b k ds e => by
      have eb : a = b := by rw [e] at hx; exact (List.cons.inj hx).1.symm
      subst eb
      rw [hx]
      exact ⟨rfl, hog k ds e⟩)
/-- a new list in a slot -/
theorem SRel.setOw (S : SRel K C H σ ρ) (i : Nat) (hi : i < ρ.length) {a : Addr} {xs : List V} {ds : List D} (n : H a = none) (s : Same H H') (l : H' a = some (.lst xs)) (r : Reps K (vis C (a :: ows ρ) H') xs ds) :
    SRel K C H' (σ.set i (some (.ref a))) (ρ.set i (.ow a ds)) ∧ Same (vis C (ows ρ) H) (vis C (ows (ρ.set i (.ow a ds))) H') :=
  S.setOwn i hi rfl n s (by rw [l]; intro z; cases z) (fun ds' e => by cases e; exact ⟨xs, l, r⟩) (fun _ e => by cases e) (fun _ e => by cases e) fun _ _ e => by cases e
/-- one's own is changed: the object at a, one that slot i owns -/
theorem SRel.updOwns (S : SRel K C H σ ρ) (i : Nat) {a : Addr} {e x : En} {o : HO} {v : V} (h : ρ[i]? = some e) (he : x.own = e.own) (ma' : a ∈ e.own) (hσ : σ[i]? = some (some v)) (a1 : atT (H a) = false) (a2 : atT (some o) = false)
    (hw : ∀ b ds, x = .ow b ds → v = .ref b ∧ ∃ xs, upd H a o b = some (.lst xs) ∧ Reps K (vis C (ows ρ) H) xs ds) (hd : ∀ b ds, x = .od b ds → v = .ref b ∧ ∃ xs, upd H a o b = some (.dT xs) ∧ RepKV K (vis C (ows ρ) H) xs ds) (ht : ∀ as d, x = .ot as d → RepT K (vis C (ows ρ) H) (upd H a o) v d as) (him : ∀ d, x ≠ .im d) (hog : ∀ b k ds, x = .og b k ds → v = .ref b ∧ ∃ xs o', upd H a o b = some o' ∧ GForm K k xs o' ∧ Reps K (vis C (ows ρ) H) xs ds := by intro _ _ _ z; cases z) :
    SRel K C (upd H a o) σ (ρ.set i x) ∧ Same (vis C (ows ρ) H) (vis C (ows (ρ.set i x)) (upd H a o)) := by
  have hi : i < ρ.length := (List.getElem?_eq_some_iff.mp h).1
  have ma : a ∈ ows ρ := mem_owsL h ma'
  have eo : ows (ρ.set i x) = ows ρ := by
    obtain ⟨l, r', h1, h2⟩ := ows_split ρ i x hi
    rw [h1, h2, ownAt_of h, he]
  have ev : vis C (ows (ρ.set i x)) (upd H a o) = vis C (ows ρ) H := by rw [eo, vis_own ma a1 a2]
  obtain ⟨n0, na⟩ := S.fr a (.inl ma)
  have nj : ∀ (j : Nat) (e' : En) (b : Addr), j ≠ i → ρ[j]? = some e' → b ∈ e'.own → b ≠ a := fun j e' b hj h' o' z => by
    subst z
    exact hj (own_inj S.nd h' h o' ma')
  refine ⟨⟨by simpa using S.len, S.gh, fun b u q => ?_, owns_nodup S.nd (fun b hb _ => by rw [ownAt_of h, ← he]; exact hb), fun b q => ?_, by rw [eo]; exact S.dj, fun j d' q => ?_, fun j b ds q => ?_, fun j b ds q => ?_, fun j as t q => ?_, fun j b k ds q => ?_⟩, by rw [ev]; exact Same.refl _⟩
  · have nb : b ≠ a := fun z => by rw [z, n0] at q; cases q
    rw [upd_ne nb]
    exact S.hh _ _ q
  · rw [eo] at q
    refine ⟨(S.fr b q).1, ?_⟩
    by_cases z : b = a
    · rw [z, upd_same]; intro y; cases y
    · rw [upd_ne z]; exact (S.fr b q).2
  · rw [ev]
    have hj : j ≠ i := fun z => by
      subst z
      rw [List.getElem?_set_self hi] at q
      exact him d' (Option.some.inj q)
    rw [List.getElem?_set_ne (Ne.symm hj)] at q
    exact S.im j d' q
  · rw [ev]
    by_cases hj : j = i
    · subst hj
      rw [List.getElem?_set_self hi] at q
      obtain ⟨e2, xs, e3, h2⟩ := hw b ds (Option.some.inj q)
      rw [hσ, e2]
      exact ⟨rfl, xs, e3, h2⟩
    · rw [List.getElem?_set_ne (Ne.symm hj)] at q
      obtain ⟨h1, xs, h2, h3⟩ := S.ow j b ds q
      exact ⟨h1, xs, by rw [upd_ne (nj j _ b hj q (List.mem_singleton_self b))]; exact h2, h3⟩
  · rw [ev]
    by_cases hj : j = i
    · subst hj
      rw [List.getElem?_set_self hi] at q
      obtain ⟨e2, xs, e3, h2⟩ := hd b ds (Option.some.inj q)
      rw [hσ, e2]
      exact ⟨rfl, xs, e3, h2⟩
    · rw [List.getElem?_set_ne (Ne.symm hj)] at q
      obtain ⟨h1, xs, h2, h3⟩ := S.od j b ds q
      exact ⟨h1, xs, by rw [upd_ne (nj j _ b hj q (List.mem_singleton_self b))]; exact h2, h3⟩
  · rw [ev]
    by_cases hj : j = i
    · subst hj
      rw [List.getElem?_set_self hi] at q
      exact ⟨v, hσ, ht as t (Option.some.inj q)⟩
    · rw [List.getElem?_set_ne (Ne.symm hj)] at q
      obtain ⟨v', h1, h2⟩ := S.ot j as t q
      exact ⟨v', h1, RepT.mono (Same.refl _) _ (fun b hb => by rw [upd_ne (nj j _ b hj q hb)]) h2⟩
  · rw [ev]
    by_cases hj : j = i
    · subst hj
      rw [List.getElem?_set_self hi] at q
      obtain ⟨e2, xs, o', e3, h2, h3⟩ := hog b k ds (Option.some.inj q)
      rw [hσ, e2]
      exact ⟨rfl, xs, o', e3, h2, h3⟩
    · rw [List.getElem?_set_ne (Ne.symm hj)] at q
      obtain ⟨h1, xs, o', h2, h3, h4⟩ := S.og j b k ds q
      exact ⟨h1, xs, o', by rw [upd_ne (nj j _ b hj q (List.mem_singleton_self b))]; exact h2, h3, h4⟩
theorem SRel.updOwn (S : SRel K C H σ ρ) (i : Nat) {a : Addr} {e x : En} {o : HO} (h : ρ[i]? = some e) (he : e.own = [a]) (hx : x.own = [a]) (hσ : σ[i]? = some (some (.ref a)))
    (hw : ∀ ds, x = .ow a ds → ∃ xs, o = .lst xs ∧ Reps K (vis C (ows ρ) H) xs ds) (hd : ∀ ds, x = .od a ds → ∃ xs, o = .dT xs ∧ RepKV K (vis C (ows ρ) H) xs ds) (him : ∀ d, x ≠ .im d) (hot : ∀ as d, x ≠ .ot as d := by intro _ _ z; cases z) (hog : ∀ k ds, x = .og a k ds → ∃ xs, GForm K k xs o ∧ Reps K (vis C (ows ρ) H) xs ds := by intro _ _ z; cases z) :
    SRel K C (upd H a o) σ (ρ.set i x) ∧ Same (vis C (ows ρ) H) (vis C (ows (ρ.set i x)) (upd H a o)) := by
  have a1 : atT (H a) = false := by
    cases e with
    | no => cases he
    | im _ => cases he
    | ow b ds => cases he; obtain ⟨_, xs, h2, _⟩ := S.ow i _ _ h; rw [h2]; rfl
    | od b ds => cases he; obtain ⟨_, xs, h2, _⟩ := S.od i _ _ h; rw [h2]; rfl
    | ot as d =>
      obtain ⟨v, _, h2⟩ := S.ot i _ _ h
      obtain ⟨xs, h3⟩ := RepT.isl _ h2 a (by rw [show as = [a] from he]; exact List.mem_singleton_self a)
      rw [h3]; rfl
    | og b k ds => cases he; obtain ⟨_, xs, o', h2, h3, _⟩ := S.og i _ _ _ h; rw [h2]; exact h3.notT fun _ => atT_some'
  have a2 : atT (some o) = false := by
    cases x with
    | no => cases hx
    | im _ => cases hx
    | ow b ds => cases hx; obtain ⟨xs, h2, _⟩ := hw ds rfl; rw [h2]; rfl
    | od b ds => cases hx; obtain ⟨xs, h2, _⟩ := hd ds rfl; rw [h2]; rfl
    | ot as d => exact (hot as d rfl).elim
    | og b k ds => cases hx; obtain ⟨xs, h2, _⟩ := hog k ds rfl; exact h2.notT fun _ => atT_some'
  refine S.updOwns i h (by rw [he, hx]) (by rw [he]; exact List.mem_singleton_self a) hσ a1 a2 (fun b ds e1 => ?_) (fun b ds e1 => ?_) (fun as d e1 => (hot as d e1).elim) him (fun b k ds e1 => ?_)
  · have eb : a = b := by rw [e1] at hx; exact (List.cons.inj hx).1.symm
    subst eb
    obtain ⟨xs, e2, h2⟩ := hw ds e1
    exact ⟨rfl, xs, by rw [upd_same, e2], h2⟩
  · have eb : a = b := by rw [e1] at hx; exact (List.cons.inj hx).1.symm
    subst eb
    obtain ⟨xs, e2, h2⟩ := hd ds e1
    exact ⟨rfl, xs, by rw [upd_same, e2], h2⟩
  · have eb : a = b := by rw [e1] at hx; exact (List.cons.inj hx).1.symm
    subst eb
    obtain ⟨xs, e2, h2⟩ := hog k ds e1
    exact ⟨rfl, xs, o, upd_same, e2, h2⟩
theorem SRel.updOw (S : SRel K C H σ ρ) (i : Nat) {a : Addr} {ds es : List D} {xs : List V} (h : ρ[i]? = some (.ow a ds)) (r : Reps K (vis C (ows ρ) H) xs es) :
    SRel K C (upd H a (.lst xs)) σ (ρ.set i (.ow a es)) ∧ Same (vis C (ows ρ) H) (vis C (ows (ρ.set i (.ow a es))) (upd H a (.lst xs))) :=
  S.updOwn i h rfl rfl (S.ow i a ds h).1 (fun ds' e => by cases e; exact ⟨xs, rfl, r⟩) (fun _ e => by cases e) (fun _ e => by cases e) fun _ _ e => by cases e
/-- one's own list becomes data (nobody will change it any more) -/
theorem SRel.freeze (S : SRel K C H σ ρ) (i : Nat) {a : Addr} {ds : List D} (h : ρ[i]? = some (.ow a ds)) : SRel K C H σ (ρ.set i (.im (.lst ds))) ∧ Same (vis C (ows ρ) H) (vis C (ows (ρ.set i (.im (.lst ds)))) H) := by
  have hi : i < ρ.length := (List.getElem?_eq_some_iff.mp h).1
  obtain ⟨h1, xs, h2, h3⟩ := S.ow i a ds h
  obtain ⟨S', s'⟩ := S.setNo i (some (.ref a))
  have eσ : σ.set i (some (.ref a)) = σ := by
    apply List.ext_getElem?
    intro j
    by_cases hj : j = i
    · subst hj
      rw [List.getElem?_set_self (by rw [S.len]; exact hi), h1]
    · rw [List.getElem?_set_ne (Ne.symm hj)]
  rw [eσ] at S'
  have na : a ∉ ows (ρ.set i .no) := own_out S.nd h (List.mem_singleton_self a) List.not_mem_nil
  have ma : a ∈ ows ρ := mem_ows h rfl
  have r : Rep K (vis C (ows (ρ.set i .no)) H) (.ref a) (.lst ds) := .lst (.inl (.inl (by
    rw [vis_at (S.fr a (.inl ma)).1 na (S.dj a ma)]
    exact h2))) (Reps.mono s' _ h3)
  obtain ⟨S2, s2⟩ := S'.setIm i r
  rw [eσ, List.set_set] at S2
  rw [List.set_set] at s2
  exact ⟨S2, s'.trans s2⟩
/-- a tree of one's own is read as data: for a while, or for good -/
theorem SRel.thaw (S : SRel K C H σ ρ) (i : Nat) {as : List Addr} {d : D} (h : ρ[i]? = some (.ot as d)) : SRel K C H σ (ρ.set i (.im d)) ∧ Same (vis C (ows ρ) H) (vis C (ows (ρ.set i (.im d))) H) := by
  have hi : i < ρ.length := (List.getElem?_eq_some_iff.mp h).1
  obtain ⟨v, h1, h2⟩ := S.ot i as d h
  obtain ⟨S', s'⟩ := S.setNo i (some v)
  have eσ : σ.set i (some v) = σ := by
    apply List.ext_getElem?
    intro j
    by_cases hj : j = i
    · subst hj
      rw [List.getElem?_set_self (by rw [S.len]; exact hi), h1]
    · rw [List.getElem?_set_ne (Ne.symm hj)]
  rw [eσ] at S'
  have r : Rep K (vis C (ows (ρ.set i .no)) H) v d := RepT.rep s' _ (fun a ha => by
    have ma : a ∈ ows ρ := mem_owsL h ha
    exact vis_at (S.fr a (.inl ma)).1 (own_out S.nd h ha List.not_mem_nil) (S.dj a ma)) h2
  obtain ⟨S2, s2⟩ := S'.setIm i r
  rw [eσ, List.set_set] at S2
  rw [List.set_set] at s2
  exact ⟨S2, s'.trans s2⟩
end
end DL

namespace DL
open PySem PySem.Spec PyProof.Rows L2
section
variable {X : Cx} {C : Ctx} {ρ ρ' : Rho} {e a b c tg : Expr} {es rest tgs : List Expr} {st : Stmt} {sts t u : List Stmt} {d da db : D} {ds : List D} {pos p : Pos} {k : Bool} {P : Post}
/-! ### blocks -/
theorem wp_nil (h : P.nx ρ) : WP X C ρ [] P := fun σ H D S L => wpSs_of pss_nil (L.nx ρ σ H h S (Same.refl _))
theorem wp_cons (h : WS X C ρ st { P with nx := fun ρ' => WP X C ρ' sts P }) : WP X C ρ (st :: sts) P := fun σ H D S L =>
  wpSs_of (pss_cons ps_wp pss_wp) (h σ H { D with nx := wpSs X sts D } S ⟨fun ρ' σ' H' q S' z => q σ' H' D S' (L.later z), L.bk, L.ct, L.rt, L.tk⟩)
theorem WP.imp {P' : Post} (h : WP X C ρ sts P) (n : ∀ ρ, P.nx ρ → P'.nx ρ) (r : ∀ x, P.rt x → P'.rt x) (b : ∀ ρ, P.bk ρ → P'.bk ρ) (c : ∀ ρ, P.ct ρ → P'.ct ρ) (e : ∀ x ρ, P.er x ρ → P'.er x ρ) : WP X C ρ sts P' := fun σ H D S L =>
  h σ H D S ⟨fun ρ σ H q => L.nx ρ σ H (n _ q), fun ρ σ H q => L.bk ρ σ H (b _ q), fun ρ σ H q => L.ct ρ σ H (c _ q), fun x v H q => L.rt x v H (r _ q), by
    obtain ⟨W, h1, h2⟩ := L.tk
    exact ⟨W, h1, fun x c ρ σ H q => h2 x c ρ σ H (e _ _ q)⟩⟩
theorem ws_pass (h : P.nx ρ) : WS X C ρ (.Pass pos) P := fun σ H D S L => wpS_of ps_pass (L.nx ρ σ H h S (Same.refl _))
theorem ws_break (h : P.bk ρ) : WS X C ρ (.Break pos) P := fun σ H D S L => wpS_of ps_break (L.bk ρ σ H h S (Same.refl _))
theorem ws_continue (h : P.ct ρ) : WS X C ρ (.Continue pos) P := fun σ H D S L => wpS_of ps_continue (L.ct ρ σ H h S (Same.refl _))
theorem ws_drop (he : EE X C ρ e d) (h : P.nx ρ) (hs : swapsWith e none pos.line X.env = pure false := by rfl) : WS X C ρ (.Expr e pos) P := fun σ H D S L =>
  wpS_of (ps_expr pe_wp hs) (he σ H S _ fun v H1 s1 r1 => L.nx ρ σ H1 h (S.same s1) (vis_same s1))
theorem ws_ret (he : EE X C ρ e d) (h : P.rt (.im d)) : WS X C ρ (.Return (some e) pos) P := fun σ H D S L =>
  wpS_of (ps_ret pe_wp) (he σ H S _ fun v H1 s1 r1 => L.rt _ v H1 h (S.hh.trans s1) (Rep.mono (vis_sub fun _ z => absurd z List.not_mem_nil) _ r1))
theorem ws_retF (he : EF X C ρ e ds) (h : P.rt (.fr ds)) : WS X C ρ (.Return (some e) pos) P := fun σ H D S L =>
  wpS_of (ps_ret pe_wp) (he σ H S _ fun a xs H1 n s1 l r1 => L.rt _ _ H1 h (S.hh.trans s1) ⟨a, xs, rfl, (S.new n).1, l, Reps.mono (vis_sub fun b z => by
    have e : b = a := by simpa using z
    rw [e]
    exact List.mem_cons_self) _ r1⟩)
theorem ws_retO (i : Nat) {x : Str} {a : Addr} (hr : ρ[i]? = some (.ow a ds) := by rfl) (h : P.rt (.fr ds)) (hN : X.N[i]? = some x := by rfl) (hv : Vis X.env.scope x := by first | exact Or.inl rfl | exact Or.inr (Or.inl rfl) | exact Or.inr (Or.inr rfl))
    (hd : (x == ("__debug__" : Str)) = false := by decide) (hcd : (x == ("__classdict__" : Str)) = false := by decide) : WS X C ρ (.Return (some (.Name x p)) pos) P := fun σ H D S L => by
  obtain ⟨h1, xs, h2, h3⟩ := S.ow i a ds hr
  have ma : a ∈ ows ρ := mem_ows hr rfl
  exact wpS_of (ps_ret (pe_var hN hv hd hcd)) ⟨_, h1, L.rt _ _ H h S.hh ⟨a, xs, rfl, (S.fr a (.inl ma)).1, h2, Reps.mono (vis_sub fun b z => by
    have e : b = a := by simpa using z
    rw [e]
    exact ma) _ h3⟩⟩
theorem ws_retN (h : P.rt (.im .non)) : WS X C ρ (.Return none pos) P := fun σ H D S L => wpS_of ps_retN (L.rt _ _ H h S.hh (.at .non))
theorem ws_if (hc : ET X C ρ c k) (h1 : k = true → WP X C ρ t P) (h2 : k = false → WP X C ρ u P) : WS X C ρ (.If c t u pos) P := fun σ H D S L =>
  wpS_of (ps_if pt_wp pss_wp pss_wp) (hc σ H S _ fun H1 s1 => by
    cases k with
    | true => exact iteT (h1 rfl σ H1 D (S.same s1) (L.later (vis_same s1)))
    | false => exact iteF (h2 rfl σ H1 D (S.same s1) (L.later (vis_same s1))))

/-! ### assignments -/
theorem ws_set (i : Nat) {x : Str} {p' : Pos} (he : EE X C ρ e d) (hρ : ρ.set i (.im d) = ρ') (h : P.nx ρ') (hN : X.N.Nodup) (hi : X.N[i]? = some x := by rfl) (hx : Loc X.env.scope x := by first | exact Or.inl rfl | exact Or.inr rfl) (hs : swapsWith e (some (.Name x p')) pos.line X.env = pure false := by rfl)
    (hf : X.fn x = true ∨ X.env.scope.names.lookup x = some .local := by first | exact .inl rfl | exact .inr rfl) : WS X C ρ (.Assign [.Name x p'] e pos) P := fun σ H D S L => by
  subst hρ
  refine wpS_of (ps_set hN hi hx pe_wp hs hf) (he σ H S _ fun v H1 s1 r1 => ?_)
  obtain ⟨S2, s2⟩ := (S.same s1).setIm i r1
  exact L.nx _ _ H1 h S2 ((vis_same s1).trans s2)
theorem ws_setF (i : Nat) {x : Str} {p' : Pos} (he : EF X C ρ e ds) (h : ∀ a, P.nx (ρ.set i (.ow a ds))) (hN : X.N.Nodup) (hi : X.N[i]? = some x := by rfl) (hl : i < ρ.length := by exact Nat.le_of_ble_eq_true rfl) (hx : Loc X.env.scope x := by first | exact Or.inl rfl | exact Or.inr rfl) (hs : swapsWith e (some (.Name x p')) pos.line X.env = pure false := by rfl)
    (hf : X.fn x = true ∨ X.env.scope.names.lookup x = some .local := by first | exact .inl rfl | exact .inr rfl) : WS X C ρ (.Assign [.Name x p'] e pos) P := fun σ H D S L => by
  refine wpS_of (ps_set hN hi hx pe_wp hs hf) (he σ H S _ fun a xs H1 n s1 l r1 => ?_)
  obtain ⟨S2, s2⟩ := S.setOw i hl n s1 l r1
  exact L.nx _ _ H1 (h a) S2 s2
/-- a, b = e1, e2: two local names -/
theorem ws_par (i j : Nat) {x y : Str} {d1 d2 : D} {px py pt pt2 : Pos} {kt k2 : Nat} (ha : EA X C ρ [a, b] [d1, d2]) (hρ : (ρ.set i (.im d1)).set j (.im d2) = ρ') (h : P.nx ρ') (hN : X.N.Nodup) (hc : X.calm = true := by rfl) (hi : X.N[i]? = some x := by rfl) (hj : X.N[j]? = some y := by rfl) (hij : i ≠ j := by decide)
    (hx : X.env.scope.names.lookup x = some .local := by rfl) (hy : X.env.scope.names.lookup y = some .local := by rfl) (hw : swappedStores [.Tuple [.Name x px, .Name y py] kt pt] (.Tuple [a, b] k2 pt2) X.env = pure (some [x, y]) := by rfl)
    (hs : swapsWithSole [.Tuple [.Name x px, .Name y py] kt pt] (.Tuple [a, b] k2 pt2) pos.line X.env = pure false := by rfl) : WS X C ρ (.Assign [.Tuple [.Name x px, .Name y py] kt pt] (.Tuple [a, b] k2 pt2) pos) P := fun σ H D S L => by
  subst hρ
  refine wpS_of (ps_par hc hN hi hj hij hx hy pa_wp hw hs) (ha σ H S _ fun vs H1 s1 r1 => ?_)
  obtain ⟨v, w, rfl, q1, q2⟩ := reps2 r1
  obtain ⟨S2, s2⟩ := (S.same s1).setIm i q1
  obtain ⟨S3, s3⟩ := S2.setIm j (Rep.mono s2 _ q2)
  exact ⟨v, w, rfl, L.nx _ _ H1 h S3 (((vis_same s1).trans s2).trans s3)⟩
/-- as it was, but for the slots L -/
def Agr (L : List Nat) (σ σ' : L2.St) : Prop := σ'.length = σ.length ∧ ∀ j, j ∉ L → σ'[j]? = σ[j]?
/-- a target is given data; L: the slots that it sets -/
def GT (X : Cx) (C : Ctx) (ρ : Rho) (tg : Expr) (d : D) (ρ' : Rho) (L : List Nat) : Prop :=
  ∀ σ H v, SRel X.K C H σ ρ → Rep X.K (vis C (ows ρ) H) v d → ∀ Q : L2.St → Hp → Prop, (∀ σ', SRel X.K C H σ' ρ' → Same (vis C (ows ρ) H) (vis C (ows ρ') H) → Agr L σ σ' → Q σ' H) → wpG X tg v σ H Q
def wpGs (X : Cx) (ts : List Expr) : TGs := fun vs σ H Q => ∀ pins s us, Inv X pins σ H s → Vals vs us → wpAny (model X.prog X.w) X.A (assignInOrder ((assignEach ts X.env).map (·.2)) us) (fun _ s' => ∃ σ' H', Inv X pins σ' H' s' ∧ Q σ' H') X.xe s
theorem pgs_wp {ts : List Expr} : PGs X ts (wpGs X ts) := ⟨fun pins s _ _ _ us _ I r h => h pins s us I r⟩
def GTs (X : Cx) (C : Ctx) (ρ : Rho) (ts : List Expr) (ds : List D) (ρ' : Rho) (L : List Nat) : Prop :=
  ∀ σ H vs, SRel X.K C H σ ρ → Reps X.K (vis C (ows ρ) H) vs ds → ∀ Q : L2.St → Hp → Prop, (∀ σ', SRel X.K C H σ' ρ' → Same (vis C (ows ρ) H) (vis C (ows ρ') H) → Agr L σ σ' → Q σ' H) → wpGs X ts vs σ H Q
theorem gt_name (i : Nat) {x : Str} (hN : X.N.Nodup) (hρ : ρ.set i (.im d) = ρ') (hi : X.N[i]? = some x := by rfl) (hx : Loc X.env.scope x := by first | exact Or.inl rfl | exact Or.inr rfl) (hf : X.fn x = true ∨ X.env.scope.names.lookup x = some .local := by first | exact .inl rfl | exact .inr rfl) : GT X C ρ (.Name x pos) d ρ' [i] := fun σ H v S r Q q => by
  subst hρ
  obtain ⟨S2, s2⟩ := S.setIm i r
  exact wpG_of (pg_name hN hi hx hf) (q _ S2 s2 ⟨by simp, fun j hj => List.getElem?_set_ne (fun z => hj (by simp [z]))⟩)
theorem gts_nil : GTs X C ρ [] [] ρ [] := fun σ H vs S r Q q pins s us I rv => pgs_nil.run pins s σ H vs us Q I rv ⟨by cases r; rfl, q σ S (Same.refl _) ⟨rfl, fun _ _ => rfl⟩⟩
theorem gts_cons {ρ'' : Rho} {L L' : List Nat} (h1 : GT X C ρ tg d ρ' L) (h2 : GTs X C ρ' tgs ds ρ'' L') (hs : (assignEach (tg :: tgs) X.env).map (·.2) = assign tg X.env :: (assignEach tgs X.env).map (·.2) := by rfl) : GTs X C ρ (tg :: tgs) (d :: ds) ρ'' (L ++ L') := fun σ H vs S r Q q pins s us I rv => by
  cases r with
  | cons r rs =>
    refine (pgs_cons pg_wp pgs_wp hs).run pins s σ H _ us Q I rv ⟨_, _, rfl, h1 σ H _ S r _ fun σ1 S1 s1 k1 => h2 σ1 H _ S1 (Reps.mono s1 _ rs) Q fun σ2 S2 s2 k2 => q σ2 S2 (s1.trans s2) ⟨k2.1.trans k1.1, fun j hj => ?_⟩⟩
    rw [List.mem_append, not_or] at hj
    rw [k2.2 j hj.2, k1.2 j hj.1]
theorem gt_tup {kk : Nat} {L : List Nat} (h : GTs X C ρ tgs ds ρ' L) (hc : X.calm = true := by rfl) (hn : (assignEach tgs X.env).length = ds.length := by rfl) (hst : (assignEach tgs X.env).findIdx? (·.1) = none := by rfl) : GT X C ρ (.Tuple tgs kk pos) (.tup ds) ρ' L := fun σ H v S r Q q => by
  cases r with
  | tup sq rs =>
    exact wpG_of (pg_tup hc pgs_wp hn hst) ⟨_, _, rfl, Same.seqT S.visIn (tq sq), rs.length, h σ H _ S rs Q q⟩
theorem gt_lst {kk : Nat} {L : List Nat} (h : GTs X C ρ tgs ds ρ' L) (hc : X.calm = true := by rfl) (hn : (assignEach tgs X.env).length = ds.length := by rfl) (hst : (assignEach tgs X.env).findIdx? (·.1) = none := by rfl) : GT X C ρ (.Tuple tgs kk pos) (.lst ds) ρ' L := fun σ H v S r Q q => by
  cases r with
  | lst sq rs =>
    exact wpG_of (pg_lst hc pgs_wp hn hst) ⟨_, _, rfl, S.visIn.seq sq, rs.length, h σ H _ S rs Q q⟩
/-- target = value -/
theorem ws_asg {L0 : List Nat} (he : EE X C ρ e d) (hg : GT X C ρ tg d ρ' L0) (h : P.nx ρ') (hs : swapsWithSole [tg] e pos.line X.env = pure false := by rfl) (hw : swappedStores [tg] e X.env = pure none := by rfl) (h1 : (assignEach [tg] X.env).map (·.2) = [assign tg X.env] := by rfl) : WS X C ρ (.Assign [tg] e pos) P := fun σ H D S L =>
  wpS_of (ps_asg pe_wp pg_wp hs hw h1) (he σ H S _ fun v H1 s1 r1 => hg σ H1 v (S.same s1) r1 _ fun σ' S' s' _ => L.nx _ _ H1 h S' ((vis_same s1).trans s'))
/-- n += e -/
theorem ws_augI (i : Nat) {x : Str} {p' : Pos} {n m : Int} (hr : ρ[i]? = some (.im (.int n)) := by rfl) (he : EE X C ρ e (.int m)) (hρ : ρ.set i (.im (.int (n + m))) = ρ') (h : P.nx ρ') (hN : X.N.Nodup) (hi : X.N[i]? = some x := by rfl) (hx : Loc X.env.scope x := by first | exact Or.inl rfl | exact Or.inr rfl)
    (hf : X.fn x = true ∨ X.env.scope.names.lookup x = some .local := by first | exact .inl rfl | exact .inr rfl) : WS X C ρ (.AugAssign (.Name x p') .Add e pos) P := fun σ H D S L => by
  subst hρ
  obtain ⟨v, h1, h2⟩ := S.im i _ hr
  cases h2
  refine wpS_of (ps_aug hN hi hx pe_wp ip_add hf) ⟨_, h1, he σ H S _ fun v H1 s1 r1 => ?_⟩
  cases r1
  obtain ⟨S2, s2⟩ := (S.same s1).setIm i (d := .int (n + m)) (.at _)
  exact ⟨n, m, rfl, rfl, L.nx _ _ H1 h S2 ((vis_same s1).trans s2)⟩
/-- xs.append(e), xs of one's own -/
theorem ws_app (i : Nat) {x : Str} {p1 p2 p3 : Pos} {a : Addr} (hr : ρ[i]? = some (.ow a ds) := by rfl) (he : EE X C ρ e d) (hl : ds.length < sizeLine) (hρ : ρ.set i (.ow a (ds ++ [d])) = ρ') (h : P.nx ρ') (hN : X.N[i]? = some x := by rfl)
    (hv : Vis X.env.scope x := by first | exact Or.inl rfl | exact Or.inr (Or.inl rfl) | exact Or.inr (Or.inr rfl)) (hs : swapsWith (.Call (.Attribute (.Name x p1) "append" p2) [e] [] p3) none pos.line X.env = pure false := by rfl)
    (hfew : ((backTo p3 (starEach [e] X.env)).all (fun x => !x.1) && (backToKw p3 (keywordEach [] X.env)).all (fun x => x.1.isSome) && decide (([e]).length + ([] : List Keyword).length + (if ([] : List Keyword).isEmpty then 0 else 1) < 30)) = true := by rfl)
    (hline : (p2.endLine == p3.line) = true := by rfl) (he1 : starEach [e] X.env = (false, eval e X.env) :: starEach [] X.env := by rfl) (hd : (x == ("__debug__" : Str)) = false := by decide) (hcd : (x == ("__classdict__" : Str)) = false := by decide) : WS X C ρ (.Expr (.Call (.Attribute (.Name x p1) "append" p2) [e] [] p3) pos) P := fun σ H D S L => by
  subst hρ
  obtain ⟨h1, xs, h2, h3⟩ := S.ow i a ds hr
  refine wpS_of (ps_expr (pe_bm PySem.F.plainAttrs_list PySem.F.slot_list_append PySem.F.type_list_append mt_append (pe_var hN hv hd hcd) (pa_cons pe_wp pa_nil he1) rfl hfew hline he1 rfl) hs) ⟨_, h1, .inl ⟨rfl, _, .inl (.inl h2)⟩, he σ H S _ fun v H1 s1 r1 => ?_⟩
  obtain ⟨S2, s2⟩ := (S.same s1).updOw i hr (((Reps.mono (vis_same s1) _ h3)).append (.cons r1 .nil))
  exact ⟨a, xs, v, rfl, rfl, s1 _ _ h2, by rw [h3.length]; exact hl, L.nx _ _ _ h S2 ((vis_same s1).trans s2)⟩
/-- xs[i] = e, xs of one's own -/
theorem ws_setIx (i : Nat) {x : Str} {p1 p2 : Pos} {a : Addr} {j : Int} {n : Nat} (hr : ρ[i]? = some (.ow a ds) := by rfl) (he : EE X C ρ e d) (hb : EE X C ρ b (.int j)) (hj : ixN ds.length j = some n) (hρ : ρ.set i (.ow a (ds.set n d)) = ρ') (h : P.nx ρ') (hN : X.N[i]? = some x := by rfl)
    (hv : Vis X.env.scope x := by first | exact Or.inl rfl | exact Or.inr (Or.inl rfl) | exact Or.inr (Or.inr rfl)) (ha : ∀ v, assign (.Subscript (.Name x p1) b p2) X.env v = (do
      let ov ← holding [v] (eval (.Name x p1) X.env)
      let iv ← holding [v, ov] (eval b X.env)
      standAt p2
      holding [v, ov, iv] (setItem ov iv v)
      release [v, ov, iv] []) := by intro _; rfl) (hs : swapsWithSole [.Subscript (.Name x p1) b p2] e pos.line X.env = pure false := by rfl) (hw : swappedStores [.Subscript (.Name x p1) b p2] e X.env = pure none := by rfl) (h1 : (assignEach [.Subscript (.Name x p1) b p2] X.env).map (·.2) = [assign (.Subscript (.Name x p1) b p2) X.env] := by rfl)
    (hd : (x == ("__debug__" : Str)) = false := by decide) (hcd : (x == ("__classdict__" : Str)) = false := by decide) : WS X C ρ (.Assign [.Subscript (.Name x p1) b p2] e pos) P := fun σ H D S L => by
  subst hρ
  refine wpS_of (ps_asg pe_wp (pg_sub (pe_var hN hv hd hcd) pe_wp set_list ha) hs hw h1) (he σ H S _ fun v H1 s1 r1 => ?_)
  have S1 := S.same s1
  obtain ⟨e1, xs, e2, e3⟩ := S1.ow i a ds hr
  refine ⟨_, e1, hb σ H1 S1 _ fun w H2 s2 r2 => ?_⟩
  cases r2
  have S2 := S1.same s2
  obtain ⟨S3, s3⟩ := S2.updOw i hr (Reps.set n (Rep.mono (vis_same s2) _ r1) (Reps.mono (vis_same s2) _ e3))
  exact ⟨a, xs, j, n, rfl, rfl, s2 _ _ e2, by rw [e3.length]; exact hj, L.nx _ _ _ h S3 (((vis_same s1).trans (vis_same s2)).trans s3)⟩
/-- one's own list will not be changed any more -/
theorem wp_freeze (i : Nat) {a : Addr} (hr : ρ[i]? = some (.ow a ds) := by rfl) (hρ : ρ.set i (.im (.lst ds)) = ρ') (h : WP X C ρ' sts P) : WP X C ρ sts P := fun σ H D S L => by
  subst hρ
  obtain ⟨S2, s2⟩ := S.freeze i hr
  exact h σ H D S2 (L.later s2)
/-- a slot is forgotten -/
theorem wp_forget (i : Nat) (hρ : ρ.set i .no = ρ') (h : WP X C ρ' sts P) : WP X C ρ sts P := fun σ H D S L => by
  subst hρ
  cases e : σ[i]? with
  | none =>
    have hi : ¬ i < ρ.length := by rw [← S.len]; exact fun z => by rw [List.getElem?_eq_getElem z] at e; cases e
    rw [set_oob hi] at h
    exact h σ H D S L
  | some x =>
    obtain ⟨S2, s2⟩ := S.setNo i x
    have eσ : σ.set i x = σ := by
      apply List.ext_getElem?
      intro j
      by_cases hj : j = i
      · subst hj
        rw [List.getElem?_set_self (List.getElem?_eq_some_iff.mp e).1, e]
      · rw [List.getElem?_set_ne (Ne.symm hj)]
    rw [eσ] at S2
    exact h σ H D S2 (L.later s2)

/-! ### loops -/
theorem ws_while (Iv : Rho → Prop) (μ : Rho → Nat) {body : List Stmt} (hp : PassesOwn (model X.prog X.w) X.A X.env X.xe) (h0 : Iv ρ) (hs : ∀ ρ, Iv ρ → ∃ k, ET X C ρ c k ∧ (k = true → WP X C ρ body { P with nx := fun ρ' => Iv ρ' ∧ μ ρ' < μ ρ, ct := fun ρ' => Iv ρ' ∧ μ ρ' < μ ρ, bk := P.nx }) ∧ (k = false → P.nx ρ)) :
    WS X C ρ (.While c body [] pos) P := fun σ H D S L => by
  refine wpS_of (ps_while hp pt_wp pss_wp) ⟨fun m σ' H' => ∃ ρ', Iv ρ' ∧ μ ρ' = m ∧ SRel X.K C H' σ' ρ' ∧ Same (vis C (ows ρ) H) (vis C (ows ρ') H'), ⟨μ ρ, ρ, h0, rfl, S, Same.refl _⟩, ?_⟩
  rintro m σ1 H1 ⟨ρ1, i1, rfl, S1, v1⟩
  obtain ⟨k, hc, hb, he⟩ := hs ρ1 i1
  refine hc σ1 H1 S1 _ fun H2 s2 => ?_
  cases k with
  | true =>
    refine iteT ⟨fun σ' H' => ∃ ρ', (Iv ρ' ∧ μ ρ' < μ ρ1) ∧ SRel X.K C H' σ' ρ' ∧ Same (vis C (ows ρ) H) (vis C (ows ρ') H'), fun σ' H' ⟨ρ', ⟨q1, q2⟩, S', v'⟩ => ⟨_, q2, ρ', q1, rfl, S', v'⟩, ?_⟩
    have L1 := L.later (v1.trans (vis_same s2))
    refine hb rfl σ1 H2 _ (S1.same s2) ⟨fun ρ' σ' H' q S' z => ⟨ρ', q, S', (v1.trans (vis_same s2)).trans z⟩, L1.nx, fun ρ' σ' H' q S' z => ⟨ρ', q, S', (v1.trans (vis_same s2)).trans z⟩, L1.rt, L1.tk⟩
  | false => exact iteF (L.nx _ _ _ (he rfl) (S1.same s2) (v1.trans (vis_same s2)))
/-- a later time: what was seen is seen -/
structure Later (C : Ctx) (V0 : Hp) (o : List Addr) (H : Hp) : Prop where
  hh : Same C.H0 H
  vi : Same V0 (vis C o H)
  all : Same V0 H
  fr : ∀ a, a ∈ o ∨ a ∈ C.hid → H a ≠ none
theorem SRel.lat {K : PySem.W.Frag} {C : Ctx} {H : Hp} {σ : L2.St} {ρ : Rho} {V0 : Hp} (S : SRel K C H σ ρ) (v : Same V0 (vis C (ows ρ) H)) : Later C V0 (ows ρ) H := ⟨S.hh, v, v.trans S.visIn, fun a h => (S.fr a h).2⟩
/-- J walks the items -/
structure Yl (K : PySem.W.Frag) (V0 : Hp) (J : It) (items : List D) : Prop where
  go : ∀ (C : Ctx) (o : List Addr) (H : Hp) (i : Nat), Later C V0 o H → i < items.length → J.go i H
  yl : ∀ (C : Ctx) (o : List Addr) (H : Hp) (i : Nat) (x : V) (H' : Hp), Later C V0 o H → i < items.length → J.yld i H x H' → ∃ d, items[i]? = some d ∧ Same H H' ∧ Rep K (vis C o H') x d
  stop : ∀ (C : Ctx) (o : List Addr) (H : Hp), Later C V0 o H → J.stop items.length H
theorem Yl.later {K : PySem.W.Frag} {V0 V1 : Hp} {J : It} {items : List D} (y : Yl K V0 J items) (s : Same V0 V1) : Yl K V1 J items :=
  have l : ∀ {C o H}, Later C V1 o H → Later C V0 o H := fun l => ⟨l.hh, s.trans l.vi, s.trans l.all, l.fr⟩
  ⟨fun C o H i h => y.go C o H i (l h), fun C o H i x H' h => y.yl C o H i x H' (l h), fun C o H h => y.stop C o H (l h)⟩
def wpI (X : Cx) (tg iter : Expr) : TI := fun σ H R => ∀ pins s, Inv X pins σ H s → wpAny (model X.prog X.w) X.A (eval iter X.env) (fun v s1 => wpAny (model X.prog X.w) X.A (pyIter v) (PIE X pins σ tg R) X.xe s1) X.xe s
theorem pi_wp {iter : Expr} : PI X tg iter (wpI X tg iter) := ⟨fun pins s _ _ _ I h => h pins s I⟩
theorem wpI_of {iter : Expr} {t : TI} (h : PI X tg iter t) {σ : L2.St} {H : Hp} {R : It → Hp → Prop} (q : t σ H R) : wpI X tg iter σ H R := fun pins s I => h.run pins s σ H R I q
/-- iter walks the items -/
def EI (X : Cx) (C : Ctx) (ρ : Rho) (tg iter : Expr) (items : List D) : Prop :=
  ∀ σ H, SRel X.K C H σ ρ → ∀ R : It → Hp → Prop, (∀ J H1, Same H H1 → Yl X.K (vis C (ows ρ) H1) J items → R J H1) → wpI X tg iter σ H R
theorem yl_list {K : PySem.W.Frag} {V0 : Hp} {a : Addr} {xs : List V} {ds : List D} (sq : SqL K V0 a xs) (r : Reps K V0 xs ds) : Yl K V0 (Itl K a) ds where
  go := fun C o H i l hi => by
    obtain ⟨v, h1, h2⟩ := r.get (List.getElem?_eq_getElem hi)
    exact ⟨xs, v, l.all.seq sq, h1⟩
  yl := fun C o H i x H' l hi y => by
    obtain ⟨rfl, y⟩ := y
    obtain ⟨v, h1, h2⟩ := r.get (List.getElem?_eq_getElem hi)
    have e := y xs (l.all.seq sq)
    rw [h1] at e
    cases e
    exact ⟨_, List.getElem?_eq_getElem hi, Same.refl _, Rep.mono l.vi _ h2⟩
  stop := fun C o H l => ⟨xs, l.all.seq sq, by rw [r.length]; exact Nat.le_refl _⟩
theorem yl_tup {K : PySem.W.Frag} {V0 : Hp} {a : Addr} {xs : List V} {ds : List D} (sq : SqT K V0 a xs) (r : Reps K V0 xs ds) : Yl K V0 (Itt K a) ds where
  go := fun C o H i l hi => by
    obtain ⟨v, h1, h2⟩ := r.get (List.getElem?_eq_getElem hi)
    exact ⟨xs, v, Same.seqT l.all sq, h1⟩
  yl := fun C o H i x H' l hi y => by
    obtain ⟨rfl, y⟩ := y
    obtain ⟨v, h1, h2⟩ := r.get (List.getElem?_eq_getElem hi)
    have e := y xs (Same.seqT l.all sq)
    rw [h1] at e
    cases e
    exact ⟨_, List.getElem?_eq_getElem hi, Same.refl _, Rep.mono l.vi _ h2⟩
  stop := fun C o H l => ⟨xs, Same.seqT l.all sq, by rw [r.length]; exact Nat.le_refl _⟩
/-- the items of range(lo, hi) -/
def rngD (lo : Int) (n : Nat) : List D := (List.range n).map fun (i : Nat) => D.int (lo + (i : Int))
theorem yl_range {K : PySem.W.Frag} {V0 : Hp} {lo : Int} {n : Nat} : Yl K V0 (Itr lo n) (rngD lo n) where
  go := fun C o H i l hi => by show i < n; simpa [rngD] using hi
  yl := fun C o H i x H' l hi y => by
    obtain ⟨rfl, rfl⟩ := y
    have hi' : i < n := by simpa [rngD] using hi
    exact ⟨.int (lo + i), by simp [rngD, hi'], Same.refl _, .at _⟩
  stop := fun C o H l => by show n ≤ (rngD lo n).length; simp [rngD]
theorem ei_list (h : EE X C ρ e (.lst ds)) : EI X C ρ tg e ds := fun σ H S R q => wpI_of (pi_list pe_wp) (h σ H S _ fun v H1 s1 r1 => by
  cases r1 with
  | lst sq rs => exact ⟨_, rfl, ⟨_, (S.same s1).visIn.seq sq⟩, q _ H1 s1 (yl_list sq rs)⟩)
theorem ei_tup (h : EE X C ρ e (.tup ds)) : EI X C ρ tg e ds := fun σ H S R q => wpI_of (pi_tup pe_wp) (h σ H S _ fun v H1 s1 r1 => by
  cases r1 with
  | tup sq rs => exact ⟨_, rfl, ⟨_, Same.seqT (S.same s1).visIn (tq sq)⟩, q _ H1 s1 (yl_tup (tq sq) rs)⟩)
theorem ei_range1 {n : Int} (hm : X.mg "range" = none) (h : EE X C ρ e (.int n)) (h0 : -(2 ^ 62) ≤ n) (h1 : n < 2 ^ 62) (hg : Gl X "range" := by rfl) (hs : starEach [e] X.env = [(false, eval e X.env)] := by rfl) : EI X C ρ tg (.Call (.Name "range" p) [e] [] pos) (rngD 0 n.toNat) := fun σ H S R q =>
  wpI_of (pi_range1 hg hm (pa_cons pe_wp pa_nil hs) hs) (h σ H S _ fun v H1 s1 r1 => by
    cases r1
    exact ⟨n, rfl, h0, h1, q _ H1 s1 yl_range⟩)
theorem ei_range2 {lo hi : Int} (hm : X.mg "range" = none) (ha : EE X C ρ a (.int lo)) (hb : EE X C ρ b (.int hi)) (h0 : -(2 ^ 62) ≤ lo ∧ lo < 2 ^ 62 ∧ -(2 ^ 62) ≤ hi ∧ hi < 2 ^ 62) (hg : Gl X "range" := by rfl) (hs : starEach [a, b] X.env = [(false, eval a X.env), (false, eval b X.env)] := by rfl) (hs2 : starEach [b] X.env = [(false, eval b X.env)] := by rfl) :
    EI X C ρ tg (.Call (.Name "range" p) [a, b] [] pos) (rngD lo (hi - lo).toNat) := fun σ H S R q =>
  wpI_of (pi_range2 hg hm (pa_cons pe_wp (pa_cons pe_wp pa_nil hs2) (by rw [hs, hs2])) hs hs2) (ha σ H S _ fun v H1 s1 r1 => hb σ H1 (S.same s1) _ fun u H2 s2 r2 => by
    cases r1
    cases r2
    exact ⟨lo, hi, rfl, h0, q _ H2 (s1.trans s2) yl_range⟩)
def rngDc (lo c : Int) (n : Nat) : List D := (List.range n).map fun (i : Nat) => D.int (lo + (i : Int) * c)
theorem yl_rangeC {K : PySem.W.Frag} {V0 : Hp} {lo c : Int} {n : Nat} : Yl K V0 (Itc lo c n) (rngDc lo c n) where
  go := fun C o H i l hi => by show i < n; simpa [rngDc] using hi
  yl := fun C o H i x H' l hi y => by
    obtain ⟨rfl, rfl⟩ := y
    have hi' : i < n := by simpa [rngDc] using hi
    exact ⟨.int (lo + (i : Nat) * c), by simp [rngDc, hi'], Same.refl _, .at _⟩
  stop := fun C o H l => by show n ≤ (rngDc lo c n).length; simp [rngDc]
theorem ei_range3 {lo hi st : Int} {n : Nat} (hm : X.mg "range" = none) (ha : EE X C ρ a (.int lo)) (hb : EE X C ρ b (.int hi)) (hc : EE X C ρ c (.int st)) (hr : RgC lo hi st n) (hg : Gl X "range" := by rfl) (hs : starEach [a, b, c] X.env = (false, eval a X.env) :: starEach [b, c] X.env := by rfl) (hs2 : starEach [b, c] X.env = (false, eval b X.env) :: starEach [c] X.env := by rfl)
    (hs3 : starEach [c] X.env = (false, eval c X.env) :: starEach [] X.env := by rfl) (hpl : (backTo pos (starEach [b, c] X.env)).any (·.1) = false := by rfl) : EI X C ρ tg (.Call (.Name "range" p) [a, b, c] [] pos) (rngDc lo st n) := fun σ H S R q =>
  wpI_of (pi_range3 hg hm (pa_cons pe_wp (pa_cons pe_wp (pa_cons pe_wp pa_nil hs3) hs2) hs) hs hpl) (ha σ H S _ fun v H1 s1 r1 => hb σ H1 (S.same s1) _ fun u H2 s2 r2 => hc σ H2 ((S.same s1).same s2) _ fun w H3 s3 r3 => by
    cases r1
    cases r2
    cases r3
    exact ⟨lo, hi, st, n, rfl, hr, q _ H3 ((s1.trans s2).trans s3) yl_rangeC⟩)
/-- pairs of zip -/
def zipD (xs ys : List D) : List D := List.zipWith (fun x y => D.tup [x, y]) xs ys
theorem zipD_get {xs ys : List D} {i : Nat} {x y : D} (h1 : xs[i]? = some x) (h2 : ys[i]? = some y) : (zipD xs ys)[i]? = some (.tup [x, y]) := by
  unfold zipD
  rw [List.getElem?_zipWith, h1, h2]
theorem zipD_len (xs ys : List D) : (zipD xs ys).length = min xs.length ys.length := by unfold zipD; rw [List.length_zipWith]
theorem yl_pair {K : PySem.W.Frag} {V0 H : Hp} {C : Ctx} {o : List Addr} {T : Addr} {x y : V} {d1 d2 : D} (l : Later C V0 o H) (hT : H T = none) (r1 : Rep K V0 x d1) (r2 : Rep K V0 y d2) : Rep K (vis C o (upd H T (.tup [x, y]))) (.ref T) (.tup [d1, d2]) := by
  have n0 : C.H0 T = none := l.hh.free hT
  have no : T ∉ o := fun z => l.fr T (.inl z) hT
  have nh : T ∉ C.hid := fun z => l.fr T (.inr z) hT
  have m : Same V0 (vis C o (upd H T (.tup [x, y]))) := l.vi.trans (vis_same (same_upd hT))
  exact .tup (by rw [vis_at n0 no nh, upd_same]) (.cons (Rep.mono m _ r1) (.cons (Rep.mono m _ r2) .nil))
theorem yl_zipL {K : PySem.W.Frag} {V0 : Hp} {a b : Addr} {xs ys : List V} {ds es : List D} (sq : SqL K V0 a xs) (r : Reps K V0 xs ds) (sq2 : SqL K V0 b ys) (r2 : Reps K V0 ys es) : Yl K V0 (Itz K a b) (zipD ds es) where
  go := fun C o H i l hi => by
    rw [zipD_len] at hi
    obtain ⟨v, h1, _⟩ := r.get (List.getElem?_eq_getElem (show i < ds.length by omega))
    obtain ⟨u, h2, _⟩ := r2.get (List.getElem?_eq_getElem (show i < es.length by omega))
    exact ⟨xs, ys, v, u, l.all.seq sq, l.all.seq sq2, h1, h2⟩
  yl := fun C o H i x H' l hi y => by
    rw [zipD_len] at hi
    obtain ⟨T, v, u, rfl, hT, rfl, f1, f2⟩ := y
    obtain ⟨v', h1, q1⟩ := r.get (List.getElem?_eq_getElem (show i < ds.length by omega))
    obtain ⟨u', h2, q2⟩ := r2.get (List.getElem?_eq_getElem (show i < es.length by omega))
    have e1 := f1 xs (l.all.seq sq)
    have e2 := f2 ys (l.all.seq sq2)
    rw [h1] at e1
    rw [h2] at e2
    cases e1
    cases e2
    exact ⟨_, zipD_get (List.getElem?_eq_getElem _) (List.getElem?_eq_getElem _), same_upd hT, yl_pair l hT q1 q2⟩
  stop := fun C o H l => ⟨xs, ys, l.all.seq sq, l.all.seq sq2, by rw [zipD_len, r.length, r2.length]; omega⟩
theorem yl_zipT {K : PySem.W.Frag} {V0 : Hp} {a b : Addr} {xs ys : List V} {ds es : List D} (sq : SqT K V0 a xs) (r : Reps K V0 xs ds) (sq2 : SqT K V0 b ys) (r2 : Reps K V0 ys es) : Yl K V0 (RZ.ItzT K a b) (zipD ds es) where
  go := fun C o H i l hi => by
    rw [zipD_len] at hi
    obtain ⟨v, h1, _⟩ := r.get (List.getElem?_eq_getElem (show i < ds.length by omega))
    obtain ⟨u, h2, _⟩ := r2.get (List.getElem?_eq_getElem (show i < es.length by omega))
    exact ⟨xs, ys, v, u, Same.seqT l.all sq, Same.seqT l.all sq2, h1, h2⟩
  yl := fun C o H i x H' l hi y => by
    rw [zipD_len] at hi
    obtain ⟨T, v, u, rfl, hT, rfl, f1, f2⟩ := y
    obtain ⟨v', h1, q1⟩ := r.get (List.getElem?_eq_getElem (show i < ds.length by omega))
    obtain ⟨u', h2, q2⟩ := r2.get (List.getElem?_eq_getElem (show i < es.length by omega))
    have e1 := f1 xs (Same.seqT l.all sq)
    have e2 := f2 ys (Same.seqT l.all sq2)
    rw [h1] at e1
    rw [h2] at e2
    cases e1
    cases e2
    exact ⟨_, zipD_get (List.getElem?_eq_getElem _) (List.getElem?_eq_getElem _), same_upd hT, yl_pair l hT q1 q2⟩
  stop := fun C o H l => ⟨xs, ys, Same.seqT l.all sq, Same.seqT l.all sq2, by rw [zipD_len, r.length, r2.length]; omega⟩
theorem ei_zipL {elts : List Expr} {kk : Nat} {tpos : Pos} {es : List D} (hm : X.mg "zip" = none) (ha : EE X C ρ a (.lst ds)) (hb : EE X C ρ b (.lst es)) (hg : Gl X "zip" := by rfl) (hs : starEach [a, b] X.env = (false, eval a X.env) :: starEach [b] X.env := by rfl) (hs2 : starEach [b] X.env = (false, eval b X.env) :: starEach [] X.env := by rfl) (hpl : (backTo pos (starEach [b] X.env)).any (·.1) = false := by rfl) :
    EI X C ρ (.Tuple elts kk tpos) (.Call (.Name "zip" p) [a, b] [] pos) (zipD ds es) := fun σ H S R q =>
  wpI_of (RZ.pi_zipA hg hm (pa_cons pe_wp (pa_cons pe_wp pa_nil hs2) hs) hs hpl) (ha σ H S _ fun v H1 s1 r1 => hb σ H1 (S.same s1) _ fun u H2 s2 r2 => by
    cases r1 with
    | lst sq rs =>
      cases r2 with
      | lst sq2 rs2 =>
        have m := vis_same (C := C) (o := ows ρ) s2
        have i2 := ((S.same s1).same s2).visIn
        exact ⟨_, _, _, _, rfl, .inl ⟨i2.seq (m.seq sq), i2.seq sq2, q _ H2 (s1.trans s2) (yl_zipL (m.seq sq) (Reps.mono m _ rs) sq2 rs2)⟩⟩)
theorem ei_zipT {elts : List Expr} {kk : Nat} {tpos : Pos} {es : List D} (hm : X.mg "zip" = none) (ha : EE X C ρ a (.tup ds)) (hb : EE X C ρ b (.tup es)) (hg : Gl X "zip" := by rfl) (hs : starEach [a, b] X.env = (false, eval a X.env) :: starEach [b] X.env := by rfl) (hs2 : starEach [b] X.env = (false, eval b X.env) :: starEach [] X.env := by rfl) (hpl : (backTo pos (starEach [b] X.env)).any (·.1) = false := by rfl) :
    EI X C ρ (.Tuple elts kk tpos) (.Call (.Name "zip" p) [a, b] [] pos) (zipD ds es) := fun σ H S R q =>
  wpI_of (RZ.pi_zipA hg hm (pa_cons pe_wp (pa_cons pe_wp pa_nil hs2) hs) hs hpl) (ha σ H S _ fun v H1 s1 r1 => hb σ H1 (S.same s1) _ fun u H2 s2 r2 => by
    cases r1 with
    | tup sq rs =>
      cases r2 with
      | tup sq2 rs2 =>
        have m := vis_same (C := C) (o := ows ρ) s2
        have i2 := ((S.same s1).same s2).visIn
        exact ⟨_, _, _, _, rfl, .inr ⟨Same.seqT i2 (Same.seqT m (tq sq)), Same.seqT i2 (tq sq2), q _ H2 (s1.trans s2) (yl_zipT (Same.seqT m (tq sq)) (Reps.mono m _ rs) (tq sq2) rs2)⟩⟩)
/-- for -/
theorem ws_for {iter : Expr} {body : List Stmt} {items : List D} (Iv : Nat → Rho → Prop) (hp : PassesOwn (model X.prog X.w) X.A X.env X.xe) (hi : EI X C ρ tg iter items) (h0 : Iv 0 ρ)
    (hs : ∀ (i : Nat) (d : D) ρ, items[i]? = some d → Iv i ρ → ∃ ρg L0, GT X C ρ tg d ρg L0 ∧ WP X C ρg body { P with nx := Iv (i + 1), ct := Iv (i + 1), bk := P.nx }) (hd : ∀ ρ, Iv items.length ρ → P.nx ρ)
    (hc : X.calm = true := by rfl) (hf : ∀ x, foldedSetIterable iter X.env x = pure x := by intro _; rfl) : WS X C ρ (.For tg iter body [] pos) P := fun σ H D S L => by
  refine wpS_of (ps_for hp hc pi_wp pg_wp pss_wp hf) (hi σ H S _ fun J H1 s1 y1 => ?_)
  have S1 := S.same s1
  refine ⟨fun i m σ' H' => i + m = items.length ∧ ∃ ρ', Iv i ρ' ∧ SRel X.K C H' σ' ρ' ∧ Same (vis C (ows ρ) H1) (vis C (ows ρ') H'), ⟨items.length, by omega, ρ, h0, S1, Same.refl _⟩, ?_⟩
  rintro i m σ2 H2 ⟨em, ρ2, i2, S2, v2⟩
  have L2 := L.later ((vis_same s1).trans v2)
  by_cases hlt : i < items.length
  · refine .inr ⟨y1.go C _ _ i (S2.lat v2) hlt, fun σ' H' => ∃ ρ', Iv (i + 1) ρ' ∧ SRel X.K C H' σ' ρ' ∧ Same (vis C (ows ρ) H1) (vis C (ows ρ') H'), fun σ' H' ⟨ρ', q1, S', v'⟩ => ⟨m - 1, by omega, by omega, ρ', q1, S', v'⟩, fun x H3 y => ?_⟩
    obtain ⟨d, hd', s3, r3⟩ := y1.yl C _ _ i x H3 (S2.lat v2) hlt y
    obtain ⟨ρg, L0, hg, hb⟩ := hs i d ρ2 hd' i2
    refine hg σ2 H3 x (S2.same s3) r3 _ fun σ4 S4 s4 _ => ?_
    have v4 := (v2.trans (vis_same s3)).trans s4
    have L4 := L.later ((vis_same s1).trans v4)
    exact hb σ4 H3 _ S4 ⟨fun ρ' σ' H' q S' z => ⟨ρ', q, S', v4.trans z⟩, L4.nx, fun ρ' σ' H' q S' z => ⟨ρ', q, S', v4.trans z⟩, L4.rt, L4.tk⟩
  · have e : i = items.length := by omega
    subst e
    exact .inl ⟨y1.stop C _ _ (S2.lat v2), L2.nx _ _ _ (hd _ i2) S2 (Same.refl _)⟩
end
end DL

namespace DL
open PySem PySem.Spec PyProof.Rows L2
/-! ### list comprehensions -/
def wipeR (ρ : Rho) : List Nat → Rho
  | [] => ρ
  | v :: vs => (wipeR ρ vs).set v .no
theorem ows_wipe {ρ : Rho} {b : Addr} : ∀ {vs : List Nat}, b ∈ ows (wipeR ρ vs) → b ∈ ows ρ
  | [], h => h
  | v :: vs, h => (ows_set_sub h).elim (fun z => ows_wipe (vs := vs) z) fun z => absurd z List.not_mem_nil
theorem SRel.wiped {K : PySem.W.Frag} {C : Ctx} {H : Hp} {σ : L2.St} {ρ : Rho} (S : SRel K C H σ ρ) : ∀ vs : List Nat, SRel K C H (wipe σ vs) (wipeR ρ vs)
  | [] => S
  | v :: vs => ((S.wiped vs).setNo v none).1
theorem wipe_in {σ : L2.St} {i : Nat} : ∀ {vs : List Nat}, i ∈ vs → i < σ.length → (wipe σ vs)[i]? = some none
  | v :: vs, h, l => by
    unfold wipe
    by_cases e : v = i
    · subst e
      exact List.getElem?_set_self (by rw [wipe_length]; exact l)
    · rw [List.getElem?_set_ne e]
      refine wipe_in ?_ l
      rcases List.mem_cons.mp h with z | z
      · exact absurd z.symm e
      · exact z
theorem wipe_again {σ σ' : L2.St} {vs L : List Nat} (hl : σ'.length = (wipe σ vs).length) (hL : ∀ j ∈ L, j ∈ vs) (h : ∀ j, j ∉ L → σ'[j]? = (wipe σ vs)[j]?) : wipe σ' vs = wipe σ vs := by
  apply List.ext_getElem?
  intro j
  by_cases m : j ∈ vs
  · by_cases hj : j < σ.length
    · rw [wipe_in m hj, wipe_in m (by rw [hl, wipe_length]; exact hj)]
    · rw [List.getElem?_eq_none (by rw [wipe_length, hl, wipe_length]; omega), List.getElem?_eq_none (by rw [wipe_length]; omega)]
  · rw [wipe_out m, h j fun z => m (hL j z)]
/-- the contexts in which a comprehension's parts run -/
def Blk (X : Cx) (scope : Scope) (X' : Cx) : Prop := ∃ (s : Shared) (H : Hp) (c : Addr) (cl : List (Str × Addr)) (fp : List Addr), X' = X.blk s H scope (compEnvC scope cl c X.env) fp
/-- the tests of a comprehension -/
def wpTs (X : Cx) (ifs : List Expr) : TT := fun σ H Q => ∀ pins s, Inv X pins σ H s →
  wpAny (model X.prog X.w) X.A (forIn ifs true fun c r => if r = true then do let ok ← isTrue c X.env (eval c X.env); pure (ForInStep.yield ok) else pure (ForInStep.yield r)) (TP X pins σ Q) X.xe s
def ETs (X : Cx) (C : Ctx) (ρ : Rho) (ifs : List Expr) (c : Bool) : Prop :=
  ∀ σ H, SRel X.K C H σ ρ → ∀ Q : Bool → Hp → Prop, (∀ H', Same H H' → Q c H') → wpTs X ifs σ H Q
section
variable {X : Cx} {C : Ctx} {ρ ρw : Rho} {e elt tg iter : Expr} {ifs : List Expr} {scope : Scope} {own : List (Str × Nat)} {pos spos py : Pos} {P : Post} {k : Bool}
theorem ets_nil : ETs X C ρ [] true := fun σ H S Q q => fun pins s I => pts_nil.run pins s σ H Q I (q H (Same.refl _))
theorem ets_one (h : ET X C ρ e k) : ETs X C ρ [e] k := fun σ H S Q q => fun pins s I => (pts_one pt_wp).run pins s σ H Q I (h σ H S Q q)
theorem SRel.hide {K : PySem.W.Frag} {H : Hp} {σ : L2.St} (S : SRel K C H σ ρ) {D : Addr} {o : HO} (n : H D = none) : SRel K { C with hid := D :: C.hid } (upd H D o) σ ρ ∧ Same (vis C (ows ρ) H) (vis { C with hid := D :: C.hid } (ows ρ) (upd H D o)) := by
  obtain ⟨n0, no, nh⟩ := S.new n
  have sm : Same (vis C (ows ρ) H) (vis { C with hid := D :: C.hid } (ows ρ) (upd H D o)) := fun b u hb => by
    have nb : b ≠ D := ne_of_none (S.visIn _ _ hb) n
    unfold vis at hb ⊢
    simp only [List.mem_cons, nb, false_or, upd_ne nb]
    exact hb
  have sH : Same H (upd H D o) := same_upd n
  refine ⟨⟨S.len, S.gh, S.hh.trans sH, S.nd, fun a h => ?_, fun a h z => ?_, fun i d h => ?_, fun i a ds h => ?_, fun i a ds h => ?_, fun i as t h => ?_, fun i a k ds h => ?_⟩, sm⟩
  · rcases h with h | h
    · exact ⟨(S.fr a (.inl h)).1, fun z => (S.fr a (.inl h)).2 (sH.free z)⟩
    · rcases List.mem_cons.mp h with z | z
      · subst z
        exact ⟨n0, by rw [upd_same]; intro z; cases z⟩
      · exact ⟨(S.fr a (.inr z)).1, fun y => (S.fr a (.inr z)).2 (sH.free y)⟩
  · rcases List.mem_cons.mp z with z | z
    · exact no (z ▸ h)
    · exact S.dj a h z
  · obtain ⟨v, h1, h2⟩ := S.im i d h
    exact ⟨v, h1, Rep.mono sm _ h2⟩
  · obtain ⟨h1, xs, h2, h3⟩ := S.ow i a ds h
    exact ⟨h1, xs, sH _ _ h2, Reps.mono sm _ h3⟩
  · obtain ⟨h1, xs, h2, h3⟩ := S.od i a ds h
    exact ⟨h1, xs, sH _ _ h2, h3.mono sm⟩
  · obtain ⟨v, h1, h2⟩ := S.ot i as t h
    exact ⟨v, h1, RepT.mono sm _ (fun b hb => by
      obtain ⟨xs, q⟩ := RepT.isl _ h2 b hb
      rw [q]
      exact (sH _ _ q).symm) h2⟩
  · obtain ⟨h1, xs, o, h2, h3, h4⟩ := S.og i a k ds h
    exact ⟨h1, xs, o, sH _ _ h2, h3, Reps.mono sm _ h4⟩
/-- what is hidden may change -/
theorem vis_hid {C : Ctx} {o : List Addr} {H : Hp} {a : Addr} {x : HO} (ha : a ∈ C.hid) (h1 : atT (H a) = false) (h2 : atT (some x) = false) : vis C o (upd H a x) = vis C o H := by
  funext b
  by_cases e : b = a
  · subst e
    unfold vis
    rw [upd_same, if_pos (show (b ∈ o ∨ b ∈ C.hid) ∧ atT (some x) = false from ⟨Or.inr ha, h2⟩), if_pos (show (b ∈ o ∨ b ∈ C.hid) ∧ atT (H b) = false from ⟨Or.inr ha, h1⟩)]
  · unfold vis
    rw [upd_ne e]
theorem SRel.updHid {K : PySem.W.Frag} {H : Hp} {σ : L2.St} (S : SRel K C H σ ρ) {D : Addr} {o : HO} (m : D ∈ C.hid) (b1 : atT (H D) = false) (b2 : atT (some o) = false) : SRel K C (upd H D o) σ ρ := by
  have ev : vis C (ows ρ) (upd H D o) = vis C (ows ρ) H := vis_hid m b1 b2
  have n0 := (S.fr D (.inr m)).1
  refine ⟨S.len, S.gh, fun b u q => ?_, S.nd, fun a h => ⟨(S.fr a h).1, ?_⟩, S.dj, fun i d h => by rw [ev]; exact S.im i d h, fun i a ds h => ?_, fun i a ds h => ?_, fun i as t h => ?_, fun i a k ds h => ?_⟩
  · rw [upd_ne (fun z => by rw [z, n0] at q; cases q)]
    exact S.hh _ _ q
  · by_cases z : a = D
    · rw [z, upd_same]; intro y; cases y
    · rw [upd_ne z]; exact (S.fr a h).2
  · obtain ⟨h1, xs, h2, h3⟩ := S.ow i a ds h
    have na : a ≠ D := fun z => S.dj a (mem_ows h rfl) (z ▸ m)
    rw [ev]
    exact ⟨h1, xs, by rw [upd_ne na]; exact h2, h3⟩
  · obtain ⟨h1, xs, h2, h3⟩ := S.od i a ds h
    have na : a ≠ D := fun z => S.dj a (mem_ows h rfl) (z ▸ m)
    rw [ev]
    exact ⟨h1, xs, by rw [upd_ne na]; exact h2, h3⟩
  · obtain ⟨v, h1, h2⟩ := S.ot i as t h
    rw [ev]
    exact ⟨v, h1, RepT.mono (Same.refl _) _ (fun b hb => by
      have na : b ≠ D := fun z => S.dj b (mem_owsL h hb) (z ▸ m)
      rw [upd_ne na]) h2⟩
  · obtain ⟨h1, xs, o, h2, h3, h4⟩ := S.og i a k ds h
    have na : a ≠ D := fun z => S.dj a (mem_ows h rfl) (z ▸ m)
    rw [ev]
    exact ⟨h1, xs, o, by rw [upd_ne na]; exact h2, h3, h4⟩
/-- the target's, the tests', the element's reading: the same in each block -/
def cG (X : Cx) (scope : Scope) (tg : Expr) : TG := fun v σ H Q => ∃ (C : Ctx) (ρ : Rho) (d : D) (ρg : Rho) (L : List Nat), SRel X.K C H σ ρ ∧ Rep X.K (vis C (ows ρ) H) v d ∧ (∀ X', Blk X scope X' → GT X' C ρ tg d ρg L) ∧
  ∀ σ', SRel X.K C H σ' ρg → Same (vis C (ows ρ) H) (vis C (ows ρg) H) → Agr L σ σ' → Q σ' H
def cT (X : Cx) (scope : Scope) (ifs : List Expr) : TT := fun σ H Q => ∃ (C : Ctx) (ρ : Rho) (c : Bool), SRel X.K C H σ ρ ∧ (∀ X', Blk X scope X' → ETs X' C ρ ifs c) ∧ ∀ H', Same H H' → Q c H'
def cE (X : Cx) (scope : Scope) (elt : Expr) : TE := fun σ H Q => ∃ (C : Ctx) (ρ : Rho) (d : D), SRel X.K C H σ ρ ∧ (∀ X', Blk X scope X' → EE X' C ρ elt d) ∧ ∀ v H', Same H H' → Rep X.K (vis C (ows ρ) H') v d → Q v H'
theorem cG_ok (s : Shared) (H : Hp) (c : Addr) (cl : List (Str × Addr)) (fp : List Addr) : PG (X.blk s H scope (compEnvC scope cl c X.env) fp) tg (cG X scope tg) := ⟨fun pins s' σ H' v u Q I r ⟨C, ρ, d, ρg, L, S, rr, hg, q⟩ => hg _ ⟨s, H, c, cl, fp, rfl⟩ σ H' v S rr Q q pins s' u I r⟩
theorem cT_ok (s : Shared) (H : Hp) (c : Addr) (cl : List (Str × Addr)) (fp : List Addr) : PTs (X.blk s H scope (compEnvC scope cl c X.env) fp) ifs (cT X scope ifs) := ⟨fun pins s' σ H' Q I ⟨C, ρ, k, S, hg, q⟩ => hg _ ⟨s, H, c, cl, fp, rfl⟩ σ H' S Q q pins s' I⟩
theorem cE_ok (s : Shared) (H : Hp) (c : Addr) (cl : List (Str × Addr)) (fp : List Addr) : PE (X.blk s H scope (compEnvC scope cl c X.env) fp) elt (cE X scope elt) := ⟨fun pins s' σ H' Q I ⟨C, ρ, d, S, hg, q⟩ => hg _ ⟨s, H, c, cl, fp, rfl⟩ σ H' S Q q pins s' I⟩
/-- what a comprehension's parts must show -/
def LcOk {β : Type} (X : Cx) (scope : Scope) (own : List (Str × Nat)) (tg : Expr) (ifs : List Expr) (elt : Expr) (ρw : Rho) (xs : List β) (enc : β → D) (p : β → Bool) (f : β → D) : Prop :=
  ∀ (C : Ctx) (i : Nat) (x : β), xs[i]? = some x → ∃ ρg L, (∀ X', Blk X scope X' → GT X' C ρw tg (enc x) ρg L) ∧ ows ρg = ows ρw ∧ (∀ j ∈ L, j ∈ own.map (·.2)) ∧ (∀ X', Blk X scope X' → ETs X' C ρg ifs (p x)) ∧ (p x = true → ∀ X', Blk X scope X' → EE X' C ρg elt (f x))
theorem lc_reading {β : Type} {xs : List β} {enc : β → D} {p : β → Bool} {f : β → D} {σ : L2.St} {H : Hp} (S : SRel X.K C H σ ρ) (hi : EI X C ρ tg iter (xs.map enc)) (hw : wipeR ρ (own.map (·.2)) = ρw) (how : ows ρw = ows ρ) (hz : xs.length ≤ sizeLine)
    (hs : LcOk X scope own tg ifs elt ρw xs enc p f) {Q : VK} (q : ∀ a vs H', H a = none → Same H H' → H' a = some (.lst vs) → Reps X.K (vis C (a :: ows ρ) H') vs ((xs.filter p).map f) → Q (.ref a) H') :
    tLc (wpI X tg iter) (cG X scope tg) (cT X scope ifs) (cE X scope elt) (own.map (·.2)) σ H Q := by
  refine hi σ H S _ fun J H1 s1 y1 D nD => ?_
  have S1 := S.same s1
  obtain ⟨Sh, vh⟩ := S1.hide (o := .lst []) nD
  have mD : D ∈ (D :: C.hid) := List.mem_cons_self
  have Sw : SRel X.K { C with hid := D :: C.hid } (upd H1 D (.lst [])) (wipe σ (own.map (·.2))) ρw := hw ▸ Sh.wiped _
  refine ⟨fun i m H' => i + m = xs.length ∧ ∃ acc, H' D = some (.lst acc) ∧ SRel X.K { C with hid := D :: C.hid } H' (wipe σ (own.map (·.2))) ρw ∧ Reps X.K (vis { C with hid := D :: C.hid } (ows ρw) H') acc (((xs.take i).filter p).map f) ∧
    Same (vis C (ows ρ) H1) (vis { C with hid := D :: C.hid } (ows ρw) H') ∧ Same H1 H', ⟨xs.length, by omega, [], upd_same, Sw, by rw [List.take_zero]; exact .nil, by rw [how]; exact vh, same_upd nD⟩, ?_⟩
  rintro i m H2 ⟨em, acc, hD, S2, racc, v2, h12⟩
  by_cases hlt : i < xs.length
  · have hlt' : i < (xs.map enc).length := by rw [List.length_map]; exact hlt
    have hx : xs[i]? = some xs[i] := List.getElem?_eq_getElem hlt
    obtain ⟨ρg, L, hG, eg, hL, hT, hE⟩ := hs { C with hid := D :: C.hid } i xs[i] hx
    have tk : xs.take (i + 1) = xs.take i ++ [xs[i]] := by rw [List.take_add_one, hx]; rfl
    refine .inr ⟨y1.go _ _ _ i (S2.lat v2) hlt', fun H' => ∃ acc, H' D = some (.lst acc) ∧ SRel X.K { C with hid := D :: C.hid } H' (wipe σ (own.map (·.2))) ρw ∧ Reps X.K (vis { C with hid := D :: C.hid } (ows ρw) H') acc (((xs.take (i + 1)).filter p).map f) ∧
      Same (vis C (ows ρ) H1) (vis { C with hid := D :: C.hid } (ows ρw) H') ∧ Same H1 H', fun H' ⟨acc', w⟩ => ⟨m - 1, by omega, by omega, acc', w⟩, fun x H3 y => ?_⟩
    obtain ⟨d, hd', s3, r3⟩ := y1.yl _ _ _ i x H3 (S2.lat v2) hlt' y
    have ed : d = enc xs[i] := by
      rw [List.getElem?_map, hx] at hd'
      exact (Option.some.inj hd').symm
    subst ed
    refine ⟨_, ρw, enc xs[i], ρg, L, S2.same s3, r3, hG, fun σ4 S4 s4 k4 => ⟨wipe_again k4.1 hL k4.2, ?_⟩⟩
    refine ⟨_, ρg, p xs[i], S4, hT, fun H5 s5 => ?_⟩
    have w5 : SRel X.K { C with hid := D :: C.hid } H5 (wipe σ (own.map (·.2))) ρw := (S2.same s3).same s5
    have vv5 : Same (vis { C with hid := D :: C.hid } (ows ρw) H2) (vis { C with hid := D :: C.hid } (ows ρw) H5) := vis_same (s3.trans s5)
    cases hp : p xs[i] with
    | true =>
      refine iteT ⟨_, ρg, f xs[i], S4.same s5, hE hp, fun v H6 s6 r6 => ?_⟩
      have s26 := (s3.trans s5).trans s6
      have hlen : acc.length ≤ i := by
        have h1 := racc.length
        rw [List.length_map] at h1
        have h2 := List.length_filter_le p (xs.take i)
        rw [List.length_take] at h2
        omega
      have b1 : atT (H6 D) = false := by rw [s26 _ _ hD]; rfl
      refine ⟨acc, s26 _ _ hD, by omega, acc ++ [v], upd_same, (S2.same s26).updHid mD b1 rfl, ?_, ?_, ?_⟩
      · rw [vis_hid mD b1 rfl, tk, List.filter_append, List.map_append]
        refine (Reps.mono (vis_same s26) _ racc).append ?_
        have e1 : List.filter p [xs[i]] = [xs[i]] := by simp [hp]
        rw [e1]
        rw [eg] at r6
        exact .cons r6 .nil
      · rw [vis_hid mD b1 rfl]
        exact v2.trans (vis_same s26)
      · intro b u hb
        have nb : b ≠ D := ne_of_none hb nD
        rw [upd_ne nb]
        exact s26 _ _ (h12 _ _ hb)
    | false =>
      refine iteF ⟨acc, (s3.trans s5) _ _ hD, w5, ?_, v2.trans vv5, h12.trans (s3.trans s5)⟩
      rw [tk, List.filter_append, List.map_append]
      have e1 : List.filter p [xs[i]] = [] := by simp [hp]
      rw [e1, List.map_nil, List.append_nil]
      exact Reps.mono vv5 _ racc
  · have e : i = xs.length := by omega
    subst e
    refine .inl ⟨by have h := y1.stop _ _ _ (S2.lat v2); rw [List.length_map] at h; exact h, q D acc H2 (s1.free nD) (s1.trans h12) hD ?_⟩
    rw [List.take_length] at racc
    refine Reps.mono (fun b u hb => ?_) _ racc
    rw [how] at hb
    unfold vis at hb ⊢
    simp only [List.mem_cons] at hb ⊢
    split
    · rename_i z; rw [if_pos z] at hb; exact hb
    · rename_i z
      rw [if_neg z] at hb
      split at hb
      · cases hb
      · rename_i z2
        rw [if_neg (by intro z3; exact z2 ⟨by rcases z3.1 with (z3 | z3) | z3; exact .inr (.inl z3); exact .inl z3; exact .inr (.inr z3), z3.2⟩)]
        exact hb
/-- a comprehension as a value -/
theorem ef_lc {β : Type} {xs : List β} {enc : β → D} {p : β → Bool} {f : β → D} (hi : EI X C ρ tg iter (xs.map enc)) (hs : LcOk X scope own tg ifs elt ρw xs enc p f) (hw : wipeR ρ (own.map (·.2)) = ρw) (how : ows ρw = ows ρ) (hz : xs.length ≤ sizeLine)
    (ok : BlkOk X.N X.env.scope scope own) (hN : X.N.Nodup) (hc : X.calm = true := by rfl) (hf : ∀ x, foldedSetIterable iter X.env x = pure x := by intro _; rfl) : EF X C ρ (.ListComp elt [⟨tg, iter, ifs, 0⟩] scope pos) ((xs.filter p).map f) := fun σ H S Q q =>
  wpE_of (pe_lc hc hN pi_wp ok cG_ok cT_ok cE_ok hf) (lc_reading S hi hw how hz hs q)
/-- name = [..] -/
theorem ws_setLc {β : Type} (i : Nat) {y : Str} {xs : List β} {enc : β → D} {p : β → Bool} {f : β → D} (hi : EI X C ρ tg iter (xs.map enc)) (hs : LcOk X scope own tg ifs elt ρw xs enc p f) (h : ∀ a, P.nx (ρ.set i (.ow a ((xs.filter p).map f)))) (hw : wipeR ρ (own.map (·.2)) = ρw) (how : ows ρw = ows ρ) (hz : xs.length ≤ sizeLine)
    (ok : BlkOk X.N X.env.scope scope own) (hN : X.N.Nodup) (hl : i < ρ.length := by exact Nat.le_of_ble_eq_true rfl) (hy : X.N[i]? = some y := by rfl) (hyl : X.env.scope.names.lookup y = some .local := by rfl) (hsw : swapsWith (.ListComp elt [⟨tg, iter, ifs, 0⟩] scope pos) (some (.Name y py)) spos.line X.env = pure true := by exact sw_true rfl rfl rfl (by decide +kernel))
    (hc : X.calm = true := by rfl) (hf : ∀ x, foldedSetIterable iter X.env x = pure x := by intro _; rfl) : WS X C ρ (.Assign [.Name y py] (.ListComp elt [⟨tg, iter, ifs, 0⟩] scope pos) spos) P := fun σ H D S L =>
  wpS_of (ps_setLc hc hN hy hyl hsw pi_wp ok cG_ok cT_ok cE_ok hf) (lc_reading S hi hw how hz hs fun a vs H' n s l r => by
    obtain ⟨S2, s2⟩ := S.setOw i hl n s l r
    exact L.nx _ _ _ (h a) S2 s2)

/-! ### raise -/
/-- what the top says of an exception class of one's own -/
structure ExcT (K : PySem.W.Frag) (mg : Str → Option Value) (x : Str) (Cl : Addr) : Prop where
  gC : mg x = some (.ref Cl)
  nC : clsOf K x = some Cl
  xF : PySem.W.excIn K Cl [.type "ValueError", .type "Exception", .type "BaseException", .type "object"] "ValueError.__new__" = true
  kF : PySem.W.keepIn K (.ref Cl) = true
  bF : PySem.W.subIn K (.ref Cl) (.type "BaseException") = some true
  tF : PySem.W.typeIn K (.ref Cl) = some (.type "type")
  ec : ExcC K Cl
theorem ws_raise {x m : Str} {Cl : Addr} {j : Nat} {p p2 p3 : Pos} (T : ExcT X.K X.mg x Cl) (h : P.er x ρ) (hc : X.calm = true := by rfl) (hg : Gl X x := by rfl) (hdb : (x == ("__debug__" : Str)) = false := by decide) : WS X C ρ (.Raise (some (.Call (.Name x p) [.Constant (.str m) j p2] [] p3)) none pos) P := fun σ H D S L => by
  obtain ⟨W, tk, hW⟩ := L.tk
  exact wpS_of (ps_raise hc tk (pmk_own PySem.F.excBase_ValueError T.xF T.gC T.kF (raises_own T.bF T.tF) hg hdb)) (hW x Cl ρ σ H h T.nC S (Same.refl _))
end

/-! ### a def keeps its promise -/
def startR (N : List Str) (ds : List D) : Rho := ds.map En.im ++ List.replicate (N.length - ds.length) .no
def fnPost (r : Res) : Post := { nx := fun _ => r = .ok (.im .non), rt := fun t => r = .ok t, er := fun c _ => r = .er c }
theorem srel_start {K : PySem.W.Frag} {H G : Hp} {N ps : List Str} {vs : List V} {ds : List D} (g : Same G H) (r : Reps K G vs ds) : SRel K ⟨H, G, []⟩ H (L2.start N vs) (startR N ds) := by
  have o0 : ows (startR N ds) = [] := by
    unfold ows startR
    rw [List.flatMap_eq_nil_iff]
    intro e he
    rcases List.mem_append.mp he with h | h
    · obtain ⟨d, _, rfl⟩ := List.mem_map.mp h
      rfl
    · rw [List.eq_of_mem_replicate h]
      rfl
  have gv : Same G (vis ⟨H, G, []⟩ [] H) := fun b x h => by
    unfold vis
    rw [if_pos (show (H b).isSome = true by rw [g _ _ h]; rfl)]
    unfold Ctx.see
    dsimp only
    split
    · exact g _ _ h
    · exact h
  have only : ∀ (i : Nat) (e : En), (startR N ds)[i]? = some e → (∃ d, e = .im d ∧ ds[i]? = some d ∧ i < ds.length) ∨ e = .no := fun i e h => by
    unfold startR at h
    by_cases hi : i < ds.length
    · rw [List.getElem?_append_left (by simpa using hi), List.getElem?_map] at h
      cases q : ds[i]? with
      | none => rw [q] at h; cases h
      | some d => rw [q] at h; exact .inl ⟨d, (Option.some.inj h).symm, rfl, hi⟩
    · rw [List.getElem?_append_right (by simpa using hi), List.getElem?_replicate] at h
      split at h
      · exact .inr (Option.some.inj h).symm
      · cases h
  refine ⟨?_, g, Same.refl _, (fun i j e e' a h1 _ o1 _ => by have z := mem_owsL h1 o1; rw [o0] at z; cases z), fun a h => ?_, fun a h => ?_, fun i d h => ?_, fun i a ds' h => ?_, fun i a ds' h => ?_, fun i a ds' h => ?_, fun i a k ds' h => ?_⟩
  · unfold L2.start startR
    simp [r.length]
  · rw [o0] at h
    rcases h with h | h <;> cases h
  · rw [o0] at h
    cases h
  · rcases only i _ h with ⟨d', e, hd, hi⟩ | e
    · cases e
      obtain ⟨v, h1, h2⟩ := r.get hd
      refine ⟨v, ?_, ?_⟩
      · unfold L2.start
        rw [List.getElem?_append_left (by rw [List.length_map, r.length]; exact hi), List.getElem?_map, h1]
        rfl
      · rw [o0]
        exact Rep.mono gv _ h2
    · cases e
  · rcases only i _ h with ⟨d', e, _⟩ | e <;> cases e
  · rcases only i _ h with ⟨d', e, _⟩ | e <;> cases e
  · rcases only i _ h with ⟨d', e, _⟩ | e <;> cases e
  · rcases only i _ h with ⟨d', e, _⟩ | e <;> cases e
section
variable {P : Program} {w : World} {K : PySem.W.Frag} {mg : Str → Option Value} {base : Heap}
theorem spF_len {α : Type} {arg : α → List D} {pre : α → Prop} {res : α → Res} {n : Nat} (hl : ∀ y, (arg y).length = n) : ∀ vs H Q E, spF K arg pre res vs H Q E → vs.length = n := fun vs H Q E h => by
  obtain ⟨G, y, _, r, _⟩ := h
  rw [r.length, hl]
theorem fn_of_body {α : Type} {arg : α → List D} {pre : α → Prop} {res : α → Ret} {x qual : Str} {st : Stmt} {f : Addr} {fd : FuncData} {N ps : List Str} {k : Nat} (F : Fun K x qual st f fd) (S : FnScope N ps (defScope st)) (hl : ∀ y, (arg y).length = ps.length)
    (body : ∀ (cdv : Value) (A : Around) (outer : List Env) (s : Shared) (H : Hp) (E : XK) (C : Ctx), Room k (A.deeper (envOfC qual (defScope st) s.heap.objs.size f cdv)) → ∀ y, pre y →
      WP (cxOf CX0 P w K mg base N qual (defScope st) f cdv A outer s H E).nox C (startR N (arg y)) (defBody st) (fnPost (.ok (res y)))) : FnOk P w K mg base CX0 (k + 1) f fd ps (spF K arg pre fun y => .ok (res y)) := by
  refine F.ok S (spF_len hl) fun cdv A outer s H vs Q E hr h => ?_
  obtain ⟨G, y, g, r, hp, q, _⟩ := h
  refine ⟨wpSs _ (defBody st), pss_wp, body cdv A outer s H E ⟨H, G, []⟩ hr y hp _ H _ (srel_start (ps := ps) g r) ⟨fun ρ σ H' h S' _ => ?_, fun ρ σ H' h => h.elim, fun ρ σ H' h => h.elim, fun t v H' h s rr => q t v H' h s rr, ⟨fun _ _ _ _ => False, takes0, fun n c ρ σ H' h => by cases h⟩⟩⟩
  exact q _ _ H' h S'.hh (.at .non)
/-- a def that raises nothing -/
theorem Cal.of_body {α : Type} {arg : α → List D} {pre : α → Prop} {res : α → Ret} {x qual : Str} {st : Stmt} {f : Addr} {fd : FuncData} {N ps : List Str} {k : Nat} (F : Fun K x qual st f fd) (hm : mg x = some (.ref f)) (hb : Binds K fd ps []) (S : FnScope N ps (defScope st)) (hl : ∀ y, (arg y).length = ps.length)
    (body : ∀ (cdv : Value) (A : Around) (outer : List Env) (s : Shared) (H : Hp) (E : XK) (C : Ctx), Room k (A.deeper (envOfC qual (defScope st) s.heap.objs.size f cdv)) → ∀ y, pre y →
      WP (cxOf CX0 P w K mg base N qual (defScope st) f cdv A outer s H E).nox C (startR N (arg y)) (defBody st) (fnPost (.ok (res y)))) : Cal P w K mg base (k + 1) x ps (spF K arg pre fun y => .ok (res y)) :=
  ⟨f, fd, CX0, hm, F.kp, hb, fn_of_body F S hl body, fun X _ _ => pass0⟩
/-- a def that may raise -/
theorem CalX.of_body {α : Type} {arg : α → List D} {pre : α → Prop} {res : α → Res} {x qual : Str} {st : Stmt} {f : Addr} {fd : FuncData} {N ps : List Str} {k : Nat} (F : Fun K x qual st f fd) (hm : mg x = some (.ref f)) (hb : Binds K fd ps []) (S : FnScope N ps (defScope st)) (hl : ∀ y, (arg y).length = ps.length)
    (body : ∀ (cdv : Value) (A : Around) (outer : List Env) (s : Shared) (H : Hp) (E : XK) (C : Ctx), Room k (A.deeper (envOfC qual (defScope st) s.heap.objs.size f cdv)) → ∀ y, pre y →
      WP (cxOf (L2.CX P w) P w K mg base N qual (defScope st) f cdv A outer s H E) C (startR N (arg y)) (defBody st) (fnPost (res y))) : CalX P w K mg base (k + 1) x ps (spF K arg pre res) := by
  refine ⟨f, fd, hm, F.kp, hb, F.okX S (spF_len hl) fun cdv A outer s H vs Q E hr h => ?_⟩
  obtain ⟨G, y, g, r, hp, q, qe⟩ := h
  refine ⟨wpSs _ (defBody st), pss_wp, body cdv A outer s H E ⟨H, G, []⟩ hr y hp _ H _ (srel_start (ps := ps) g r) ⟨fun ρ σ H' h S' _ => ?_, fun ρ σ H' h => h.elim, fun ρ σ H' h => h.elim, fun t v H' h s rr => q t v H' h s rr, ⟨fun cls d _ H => E cls d H, takes_of rfl rfl rfl rfl, fun n c ρ σ H' h k S' _ => qe n c H' h k S'.hh⟩⟩⟩
  exact q _ _ H' h S'.hh (.at .non)
end
end DL

namespace DL
open PySem PySem.Spec PyProof.Rows L2
/-- where a def of the text stands -/
structure At (K : PySem.W.Frag) (mg : Str → Option Value) (x : Str) (st : Stmt) (ps : List Str) : Prop where
  ex : ∃ f fd, Fun K x x st f fd ∧ mg x = some (.ref f) ∧ Binds K fd ps []
theorem at_mk {K : PySem.W.Frag} {h : Heap} {mg : Str → Option Value} {x : Str} {st : Stmt} {ps : List Str} {f : Addr} {oc : Value} {od an : Option Addr} {osl : Array (Option Value)} {kV doc pm cdv ct : Value} (X : K.In h) (G : h.Ns mainGlobals mg)
    (a : PySem.W.nsIn K mainGlobals x = some (some (.ref f))) (l : K.lookup f = some ⟨oc, od, .func (PySem.W.fnOf x x (defArgs st) (defBody st) (defScope st) .none kV doc pm an cdv ct), osl⟩) (c : PySem.W.codeIn K cdv x = true) (k : PySem.W.keepIn K (.ref f) = true)
    (b : ∀ (kV doc pm : Value) (an : Option Addr) (cdv ct : Value) (us : List Value), us.length = ps.length → bindArgs (PySem.W.fnOf x x (defArgs st) (defBody st) (defScope st) .none kV doc pm an cdv ct) ⟨us, []⟩ = pure (ps.zip us)) : At K mg x st ps :=
  ⟨f, _, fun_mk l c k, PySem.W.mg_of X G a, (fun_mk l c k).binds b⟩
section
variable {X : Cx} {C : Ctx} {ρ : Rho} {st : List Stmt} {P : Post}
theorem wp_at {ρ0 : Rho} (e : ρ0 = ρ) (h : WP X C ρ st P) : WP X C ρ0 st P := e ▸ h
end
/-- the law's own def, from where it stands -/
theorem law_mk {K : PySem.W.Frag} {h : Heap} {mg : Str → Option Value} {x y : Str} {st : Stmt} {fa f : Addr} {oc : Value} {od an : Option Addr} {osl : Array (Option Value)} {kV doc pm cdv ct : Value} {P : Program} {w : World} {sp : Sp} {CX : CXT} {n : Nat} (X : K.In h) (G : h.Ns mainGlobals mg) (hfa : mg x = some (.ref fa))
    (a : PySem.W.nsIn K mainGlobals x = some (some (.ref f))) (l : K.lookup f = some ⟨oc, od, .func (PySem.W.fnOf x x (defArgs st) (defBody st) (defScope st) .none kV doc pm an cdv ct), osl⟩) (c : PySem.W.codeIn K cdv x = true) (k : PySem.W.keepIn K (.ref f) = true)
    (b : ∀ (kV doc pm : Value) (an : Option Addr) (cdv ct : Value) (u : Value), bindArgs (PySem.W.fnOf x x (defArgs st) (defBody st) (defScope st) .none kV doc pm an cdv ct) ⟨[u], []⟩ = pure [(y, u)])
    (H : ∀ (fd : FuncData), Fun K x x st f fd → ∀ base : Heap, FnOk P w K mg base CX n f fd [y] sp) :
    ∃ fd : FuncData, (∀ (s : Shared) (u : Value), BindsTo s fd ⟨[u], []⟩ [(y, u)]) ∧ ∀ base : Heap, K.In base → base.Ns mainGlobals mg → FnOk P w K mg base CX n fa fd [y] sp := by
  have e := hfa.symm.trans (PySem.W.mg_of X G a)
  cases e
  exact ⟨_, fun s u => .of_eq (b _ _ _ _ _ _ u), fun base _ _ => H _ (fun_mk l c k) base⟩
abbrev spLaw (K : PySem.W.Frag) : Sp := spF K (fun ns : List Int => [.lst (D.ints ns)]) (fun ns => ns.length ≤ 63 ∧ ∀ z ∈ ns, Sz 1048576 z) fun _ => .ok (.im (.bl true))
theorem law_asks {K : PySem.W.Frag} {H : Hp} {a : Addr} {ns : List Int} (hl : ns.length ≤ 63) (hb : ∀ z ∈ ns, Builtin.Int.intBits z ≤ 1048576) (hS : SqL K H a (ns.map V.int)) : spLaw K [.ref a] H (fun v _ => v = .bl true) fun _ _ _ => False :=
  ⟨H, ns, Same.refl _, .cons (.lst hS (Reps.of_ints ns)) .nil, ⟨hl, fun z hz => Sz.of_bits (hb z hz)⟩, fun r v H' e _ rr => by
    cases e
    cases rr
    rfl, fun n c H' e => by cases e⟩
/-- an exception class of the text -/
theorem exc_mk {K : PySem.W.Frag} {h : Heap} {mg : Str → Option Value} {x : Str} {Cl : Addr} (X : K.In h) (G : h.Ns mainGlobals mg) (a : PySem.W.nsIn K mainGlobals x = some (some (.ref Cl))) (xF : PySem.W.excIn K Cl [.type "ValueError", .type "Exception", .type "BaseException", .type "object"] "ValueError.__new__" = true)
    (kF : PySem.W.keepIn K (.ref Cl) = true) (bF : PySem.W.subIn K (.ref Cl) (.type "BaseException") = some true) (tF : PySem.W.typeIn K (.ref Cl) = some (.type "type"))
    (hg : PySem.W.findIn K (.ref Cl) "__getattribute__" = some (some (.builtin "BaseException.__getattribute__"))) (hk : PySem.W.findIn K (.ref Cl) "__getattr__" = some none) (hd : PySem.W.hasDictIn K Cl = true) (ha : PySem.W.findIn K (.ref Cl) "__class__" = some (some (.builtin "object.__class__")))
    (hn : PySem.W.specialIn K (.builtin "object.__class__") "__get__" = some (some (.builtin "getset_descriptor.__get__"))) (ht : PySem.W.takesIn K (.builtin "object.__class__") = some true) (hm : PySem.W.mroIn K Cl (.type "object") = some true) : ExcT K mg x Cl :=
  ⟨PySem.W.mg_of X G a, by unfold clsOf; rw [a], xF, kF, bF, tF, ⟨hg, hk, bF, hd, ha, hn, ht, hm⟩⟩

/-! ### data of ints -/
theorem ints_get {ns : List Int} {i : Nat} {d : D} (h : (D.ints ns)[i]? = some d) : ∃ n, d = .int n ∧ ns[i]? = some n := by
  rw [List.getElem?_map] at h
  cases e : ns[i]? with
  | none => rw [e] at h; cases h
  | some n => rw [e] at h; exact ⟨n, (Option.some.inj h).symm, rfl⟩
theorem ints_atI {ns : List Int} {k : Int} (h0 : 0 ≤ k) (h : k < ns.length) : atI (D.ints ns) k = some (.int (ns.getD k.toNat 0)) := by
  have e : k = (k.toNat : Int) := by omega
  have hl : k.toNat < ns.length := by omega
  have q : (D.ints ns)[k.toNat]? = some (.int (ns.getD k.toNat 0)) := by
    rw [List.getElem?_map, List.getElem?_eq_getElem hl]
    simp [hl]
  have r := atI_nat q
  rw [← e] at r
  exact r
theorem len_small {n m : Nat} (h : n ≤ m) (hm : m < 16777216 := by decide) : n < sizeLine := by
  rw [sizeLine_eq]
  omega
/-- three ints -/
abbrev P3 := Int × Int × Int
def t3 (p : P3) : D := .tup [.int p.1, .int p.2.1, .int p.2.2]
def Sz3 (n : Nat) (p : P3) : Prop := Sz n p.1 ∧ Sz n p.2.1 ∧ Sz n p.2.2
theorem Sz3.mono {n m : Nat} {p : P3} (h : Sz3 n p) (l : n ≤ m) : Sz3 m p := ⟨h.1.mono l, h.2.1.mono l, h.2.2.mono l⟩
section
variable {X : Cx} {C : Ctx} {ρ : Rho} {a b c : Expr} {pos : Pos}
theorem ee_t3 {i j k : Int} {x1 : Nat} (ha : EE X C ρ a (.int i)) (hb : EE X C ρ b (.int j)) (hc : EE X C ρ c (.int k)) (h1 : starEach [a, b, c] X.env = (false, eval a X.env) :: starEach [b, c] X.env := by rfl) (h2 : starEach [b, c] X.env = (false, eval b X.env) :: starEach [c] X.env := by rfl) (h3 : starEach [c] X.env = (false, eval c X.env) :: starEach [] X.env := by rfl) :
    EE X C ρ (.Tuple [a, b, c] x1 pos) (t3 (i, j, k)) := ee_tup (ea_cons ha (ea_cons hb (ea_cons hc ea_nil h3) h2) h1)
theorem eqb_int (i j : Int) : PyData.eqv (.int i) (.int j) = decide (i = j) := by rw [PyData.eqv]; exact Bool.beq_eq_decide_eq _ _
theorem eqb_t3 (p q : P3) : D.eqb (t3 p) (t3 q) = decide (p = q) := by
  obtain ⟨a, b, c⟩ := p
  obtain ⟨x, y, z⟩ := q
  show PyData.eqv (.tuple [.int a, .int b, .int c]) (.tuple [.int x, .int y, .int z]) = _
  rw [PyData.eqv, PyData.eqvAll, PyData.eqvAll, PyData.eqvAll, PyData.eqvAll, eqb_int, eqb_int, eqb_int]
  by_cases h1 : a = x <;> by_cases h2 : b = y <;> by_cases h3 : c = z <;> simp [h1, h2, h3]
theorem good_t3 (p : P3) : (t3 p).Good := ⟨rfl, Nat.le_of_ble_eq_true rfl⟩
theorem ec_eq3 {p q : P3} (hu : X.A.units + 64 < cLine) (ha : EE X C ρ a (t3 p)) (hb : EE X C ρ b (t3 q)) : EC X C ρ .Eq a b (.bl (decide (p = q))) := (ec_eqD hu ha hb (good_t3 p) (good_t3 q)).eq (by rw [eqb_t3])
theorem ec_ne3 {p q : P3} (hu : X.A.units + 64 < cLine) (ha : EE X C ρ a (t3 p)) (hb : EE X C ρ b (t3 q)) : EC X C ρ .NotEq a b (.bl (!decide (p = q))) := (ec_neD hu ha hb (good_t3 p) (good_t3 q)).eq (by rw [eqb_t3])
end
end DL

namespace DL
open PySem PySem.Spec PyProof.Rows L2
/-! ### raised in an expression -/
/-- e comes to no value: it raises an own exception of the class at c -/
def EX (X : Cx) (C : Ctx) (ρ : Rho) (e : Expr) (n : Str) : Prop :=
  ∀ σ H, SRel X.K C H σ ρ → ∀ W : WX, Takes X W → (∀ c H', clsOf X.K n = some c → Same H H' → W (.ref c) none σ H') → ∀ Q : VK, wpE X e σ H Q
section
variable {X : Cx} {C : Ctx} {ρ : Rho} {P : Post} {e tg : Expr} {es : List Expr} {c : Str} {pos p : Pos} {α : Type} {arg : α → List D} {pre : α → Prop} {res : α → Res} {k : Nat} {x : Str} {ps : List Str}
/-- a call of an own def that raises -/
theorem ex_call (y : α) (F : CalX X.prog X.w X.K X.mg X.base k x ps (spF X.K arg pre res)) (hr : Room k X.A) (ha : EA X C ρ (e :: es) (arg y)) (hp : pre y) (hd : res y = .er c) (hg : Gl X x := by rfl) (hdb : (x == ("__debug__" : Str)) = false := by decide)
    (he : starEach (e :: es) X.env = (false, eval e X.env) :: starEach es X.env := by rfl) (hpl : (backTo pos (starEach es X.env)).any (·.1) = false := by rfl) : EX X C ρ (.Call (.Name x p) (e :: es) [] pos) c := fun σ H S W tk hW Q pins s J => by
  obtain ⟨f, fd, hm, hk, hb, ok⟩ := F.ex
  refine wpAny_Call_Name_kw (ld_glob J hg hm ?_ hdb)
  have args := ha σ H S (fun vs H1 => spF X.K arg pre res vs H1 Q fun cls d H2 => W cls d σ H2) (fun vs H1 s1 r1 => ⟨vis C (ows ρ) H1, y, (S.same s1).visIn, r1, hp, (fun r v H2 q => nomatch hd.symm.trans q), fun n' c' H2 q k s2 => by
    rw [hd] at q
    cases q
    exact hW c' H2 k (s1.trans s2)⟩) pos pins s J
  refine PySem.W.callWith_K (h₀ := X.base) J.ok.mod.kin hk (thn args fun us s1 ⟨vs, H1, J1, rv, q⟩ => ⟨J1.kIn, ?_⟩) he hpl
  have hl : (us ++ []).length = ps.length := by rw [List.append_nil, ← rv.length]; exact ok.len _ _ _ _ q
  have rv' : Vals vs (us ++ []) := by rw [List.append_nil]; exact rv
  refine wpAny_call (codeAny_mono (ok.run X.A X.stack s1 H1 ⟨us, []⟩ (us ++ []) vs Q _ hr J1.env0 (hb s1 us J1.kIn hl) rv' q) fun t s' ht => ?_)
  cases t with
  | error z => exact tk _ _ (XE.of_call J1 (fun _ _ _ w => w) ht)
  | ok fl =>
    cases fl with
    | ret u => exact J1.after ht
    | next => exact ht.elim
    | brk => exact ht.elim
    | cont => exact ht.elim
theorem ex_drop (he : EX X C ρ e c) (h : P.er c ρ) (hs : swapsWith e none pos.line X.env = pure false := by rfl) : WS X C ρ (.Expr e pos) P := fun σ H D S L => by
  obtain ⟨W, tk, hW⟩ := L.tk
  exact wpS_of (ps_expr pe_wp hs) (he σ H S W tk (fun c' H1 k s1 => hW c c' ρ σ H1 h k (S.same s1) (vis_same s1)) _)
theorem ex_ret (he : EX X C ρ e c) (h : P.er c ρ) : WS X C ρ (.Return (some e) pos) P := fun σ H D S L => by
  obtain ⟨W, tk, hW⟩ := L.tk
  exact wpS_of (ps_ret pe_wp) (he σ H S W tk (fun c' H1 k s1 => hW c c' ρ σ H1 h k (S.same s1) (vis_same s1)) _)
theorem ex_set (i : Nat) {x : Str} {p' : Pos} (he : EX X C ρ e c) (h : P.er c ρ) (hN : X.N.Nodup) (hi : X.N[i]? = some x := by rfl) (hx : Loc X.env.scope x := by first | exact Or.inl rfl | exact Or.inr rfl) (hs : swapsWith e (some (.Name x p')) pos.line X.env = pure false := by rfl)
    (hf : X.fn x = true ∨ X.env.scope.names.lookup x = some .local := by first | exact .inl rfl | exact .inr rfl) : WS X C ρ (.Assign [.Name x p'] e pos) P := fun σ H D S L => by
  obtain ⟨W, tk, hW⟩ := L.tk
  exact wpS_of (ps_set hN hi hx pe_wp hs hf) (he σ H S W tk (fun c' H1 k s1 => hW c c' ρ σ H1 h k (S.same s1) (vis_same s1)) _)
theorem ex_asg {t : TG} (he : EX X C ρ e c) (hg : PG X tg t) (h : P.er c ρ) (hs : swapsWithSole [tg] e pos.line X.env = pure false := by rfl) (hw : swappedStores [tg] e X.env = pure none := by rfl) (h1 : (assignEach [tg] X.env).map (·.2) = [assign tg X.env] := by rfl) : WS X C ρ (.Assign [tg] e pos) P := fun σ H D S L => by
  obtain ⟨W, tk, hW⟩ := L.tk
  exact wpS_of (ps_asg pe_wp hg hs hw h1) (he σ H S W tk (fun c' H1 k s1 => hW c c' ρ σ H1 h k (S.same s1) (vis_same s1)) _)
end

/-! ### try .. except X as e -/
theorem exF_ok {P : Program} {w : World} {H : Hp} {h : Heap} {a Cl : Addr} {oe : Obj} {vs : Array Value} (e : h.get? a = some oe) (z : Zc (.ref Cl) none oe) (d : oe.data = .fields vs) : ObjOk P w H h a (ExF Cl a) :=
  ⟨⟨oe, vs, e, z, d⟩, ⟨oe, e⟩, fun _ _ ⟨o, v, q, r⟩ k => ⟨o, v, k o q, r⟩⟩
section
variable {X : Cx} {C : Ctx} {ρ : Rho} {P : Post} {σ : L2.St} {H : Hp} {s : Shared}
/-- the suite's state: the caught one stands in the heap -/
theorem inv_caught {a Cl : Addr} {oe : Obj} {vs : Array Value} {pn pn' : List (Addr × Obj)} (J : Inv (X.suite a ((a, oe) :: pn)) [] σ H s) (hz : Zc (.ref Cl) none oe) (hd : oe.data = .fields vs) (na : H a = none) (n0 : X.s_0.heap.get? a = none) (hp : ∀ q ∈ pn', q ∈ pn ∧ q.1 ≠ a)
    (nl : a ≠ X.env.locals) (nc : ∀ x c, X.env.cells.lookup x = some c → c ≠ a) : Inv (X.suite a pn') [] σ (upd H a (ExF Cl a)) s := by
  have pa : s.heap.get? a = some oe := (J.pin (a, oe) (by simp)).1
  refine ⟨J.ok.mod |> fun _ => ⟨J.ok.mod, J.ok.kind, J.ok.glob, J.ok.blt, J.ok.above, J.ok.inj, J.ok.has, J.ok.cab, J.ok.hd, J.ok.frames, J.ok.stk, J.ok.exf, J.ok.bs, J.ok.bsz, J.ok.noex, J.ok.exfs, J.ok.funs, J.ok.frf⟩, J.os, J.bare, ?_, J.loc, J.cell, ?_, ?_, fun q hq => ?_, ?_, J.len⟩
  · have u := J.base
    exact ⟨u.keep, u.slot, fun b o q n hx => by rw [upd_ne (fun z => by rw [z] at q; rw [show X.s_0.heap.get? a = some o from q] at n0; cases n0)]; exact u.free b o q n hx, u.there, fun b xs q => by rw [upd_ne (ne_of_none (u.tups b xs q) na)]; exact u.tups b xs q,
      fun b o v q => by rw [upd_ne (ne_of_none (u.frzs b o v q) na)]; exact u.frzs b o v q, fun b ts q => by
        obtain ⟨m, z⟩ := u.tbls b ts q
        exact ⟨m, by rw [upd_ne (ne_of_none z na)]; exact z⟩⟩
  · rw [upd_ne (Ne.symm nl)]; exact J.free
  · intro x c e
    rw [upd_ne (nc x c e)]
    exact J.freeC x c e
  · obtain ⟨m, ne⟩ := hp q (by rw [List.append_nil] at hq; exact hq)
    obtain ⟨p1, p2, p3⟩ := J.pin q (by rw [List.append_nil]; exact List.mem_cons_of_mem _ m)
    exact ⟨p1, by rw [upd_ne ne]; exact p2, p3⟩
  · exact J.hok.laidN (fun _ _ q => q) na (exF_ok pa hz hd)
theorem inv_left {a : Addr} {pn pn' : List (Addr × Obj)} (J : Inv (X.suite a (X.pn ++ pn)) pn' σ H s) (ok : X.Ok) : Inv X pn σ H s :=
  ⟨ok, J.os, J.bare, J.base, J.loc, J.cell, J.free, J.freeC, fun p hp => J.pin p (List.mem_append_left _ hp), J.hok, J.len⟩
/-- what a suite is to show -/
def sPost (P : Post) (i : Nat) : Post := { nx := fun ρ => P.nx (ρ.set i .no), rt := P.rt, bk := fun ρ => P.bk (ρ.set i .no), ct := fun ρ => P.ct (ρ.set i .no), er := fun _ _ => False }
/-- what a try's body is to show -/
def tPost (X : Cx) (C : Ctx) (P : Post) (i : Nat) (c : Addr) (su : List Stmt) : Post := { P with er := fun n ρ => (∀ Cl, clsOf X.K n = some Cl → PySem.W.exmOne X.K (.ref Cl) (.ref c) = some true) ∧ ∀ (a : Addr) (pn : List (Addr × Obj)), WP (X.suite a pn) C (ρ.set i (.im (.exc n))) su (sPost P i) }
theorem ws_try (i : Nat) {x n : Str} {c : Addr} {body suite : List Stmt} {b₀ : Stmt} {np pos pos' : Pos} (hc : X.mg x = some (.ref c)) (hN : X.N.Nodup)
    (hb : ∀ (pn : List (Addr × Obj)) (xe : Value → Shared → Prop), PassesOwn (model X.prog X.w) X.A X.env xe → WP (X.tr pn xe) C ρ body (tPost X C P i c (b₀ :: suite)))
    (hs : X.stack = X.env :: X.outer := by rfl) (hex : X.ex = [] := by rfl) (hf : X.env.frame = some X.env.locals := by rfl) (hi : X.N[i]? = some n := by rfl) (hln : X.env.kindOf n = some .local := by rfl) (hg : Gl X x := by rfl) (hdb : (x == ("__debug__" : Str)) = false := by decide) :
    WS X C ρ (.Try body [.ExceptHandler (some (.Name x np)) (some n) (b₀ :: suite) pos'] [] [] pos) P := fun σ H D S L pins s J => by
  have ok := J.ok
  have fr : X.A.frames = some (X.env :: X.outer) := by rw [ok.frames, hs]
  refine wpAny_Try_except ?_
  let xe1 : Value → Shared → Prop := fun z t => wpAny (model X.prog X.w) X.A (noteFrame z X.env) (fun _ t2 => wpAny (model X.prog X.w) X.A (setFlight z none) (fun _ t3 => wpAny (model X.prog X.w) X.A (handleBy z X.env [.ExceptHandler (some (.Name x np)) (some n) (b₀ :: suite) pos']) (SP X pins D) X.xe t3) X.xe t2) X.xe t
  let W1 : WX := fun cls d σ' H' => ∃ nm Cl ρ', cls = .ref Cl ∧ d = none ∧ clsOf X.K nm = some Cl ∧ (tPost X C P i c (b₀ :: suite)).er nm ρ' ∧ SRel X.K C H' σ' ρ' ∧ Same (vis C (ows ρ) H) (vis C (ows ρ') H')
  have catches : Takes (X.tr (X.pn ++ pins) xe1) W1 := by
    intro u s' xx
    obtain ⟨a, B, sI, pins', σ', H', cls, d, rfl, J', nb, up, sky, na, os, ag, nm, Cl, ρ', rfl, rfl, hcl, ⟨hm0, hsu⟩, S', v'⟩ := xx
    have hm := hm0 Cl hcl
    have J1 : Inv X pins σ' H' sI := J'.ofTry ok
    have sky1 : Sky B (X.env :: X.outer) a (Zc (.ref Cl) none) X.env.locals s'.heap := by rw [← hs]; exact sky
    show wpAny (model X.prog X.w) X.A (noteFrame (.ref a) X.env) _ _ _
    refine Sky.land Zc.steady fr hf sky1 fun h3 f3 up3 => ?_
    have J3 : Inv X pins σ' H' { s' with heap := h3 } := J1.landed nb f3.1 (up.trans up3) os ag
    obtain ⟨oe3, vs3, e3, z3, d3⟩ := f3.there
    have bare : a ∉ frs (X.env :: X.outer) := fun hm => by
      obtain ⟨_, o', e', hnf⟩ := f3.2.2.1.mem hm
      rw [e3] at e'
      cases e'
      exact hnf _ d3
    have nL : a ≠ X.env.locals := fun z => bare (List.mem_filterMap.mpr ⟨X.env, List.mem_cons_self, by rw [hf, z]⟩)
    have nF : a ∉ X.fs := fun hm => by
      obtain ⟨e, he, q⟩ := List.mem_filterMap.mp hm
      exact bare (List.mem_filterMap.mpr ⟨e, List.mem_cons_of_mem _ he, q⟩)
    have nI : sI.heap.get? a = none := by
      cases q : sI.heap.get? a with
      | none => rfl
      | some o =>
        have z := nb a o q (by show a ∉ frs X.stack; rw [hs]; exact bare)
        rw [f3.2.1] at z
        cases z
    have n0 : X.s_0.heap.get? a = none := by
      cases q : X.s_0.heap.get? a with
      | none => rfl
      | some o =>
        obtain ⟨o', z⟩ := J1.base.there a o q (by
          intro hx
          rw [hex] at hx
          cases hx)
        rw [nI] at z
        cases z
    have nC : ∀ y c', X.env.cells.lookup y = some c' → c' ≠ a := fun y c' hy z => by
      obtain ⟨v, o, ho, hd⟩ := J1.cell y c' hy
      rw [z, nI] at ho
      cases ho
    have nP : ∀ q ∈ X.pn ++ pins, q.1 ≠ a := fun q hq z => by
      have := (J1.pin q hq).1
      rw [z, nI] at this
      cases this
    have S3 := J3.suite e3 d3 na nL nF
    refine wpAny_handleBy_cons (codeAny_handlers_test ?_) (by intro q; cases q)
    have lt : PySem.W.Looks (model X.prog X.w) h3 (typeOf (.ref a)) (.ref Cl) := fun A Q E t k q => wpAny_typeOf_ref (k _ _ e3) (by rw [z3.1]; exact q)
    have lm := PySem.W.exm_one (M := model X.prog X.w) (J3.kIn) lt hm
    refine ld_glob (X := X.suite a ((a, oe3) :: (X.pn ++ pins))) S3 hg hc (lm.here ?_) hdb
    refine codeAny_handlers_suite_as ?_
    refine HandSPX.lands_againZ f3 fun h4 f4 up4 => ?_
    have J4 : Inv X pins σ' H' { s' with heap := h4 } := J1.landed nb f4.1 ((up.trans up3).trans up4) os ag
    obtain ⟨oe4, vs4, e4, z4, d4⟩ := f4.there
    refine store_ok (X := X.suite a ((a, oe4) :: (X.pn ++ pins))) (v := .ref a) (J4.suite e4 d4 na nL nF) hN hi (.inl hln) rfl (fun s5 S5 => ?_) (.inr hln)
    have J5 := inv_caught (X := X) (pn' := X.pn ++ pins) S5 z4 d4 na n0 (fun q hq => ⟨hq, nP q hq⟩) nL nC
    have r5 : Rep X.K (vis C (ows ρ') (upd H' a (ExF Cl a))) (.ref a) (.exc nm) := .exc hcl (by
      obtain ⟨m0, mo, mh⟩ := S'.new na
      rw [vis_at m0 mo mh, upd_same])
    obtain ⟨S6, v6⟩ := (S'.same (same_upd na)).setIm i r5
    have v7 : Same (vis C (ows ρ) H) (vis C (ows (ρ'.set i (.im (.exc nm)))) (upd H' a (ExF Cl a))) := (v'.trans (vis_same (same_upd na))).trans v6
    have go := hsu a (X.pn ++ pins) (σ'.set i (some (.ref a))) (upd H' a (ExF Cl a)) { nx := fun σ2 H2 => D.nx (σ2.set i none) H2, rt := D.rt, bk := fun σ2 H2 => D.bk (σ2.set i none) H2, ct := fun σ2 H2 => D.ct (σ2.set i none) H2 } S6
      ⟨fun ρ2 σ2 H2 q T y => L.nx _ _ _ q (T.setNo i none).1 ((v7.trans y).trans (T.setNo i none).2), fun ρ2 σ2 H2 q T y => L.bk _ _ _ q (T.setNo i none).1 ((v7.trans y).trans (T.setNo i none).2), fun ρ2 σ2 H2 q T y => L.ct _ _ _ q (T.setNo i none).1 ((v7.trans y).trans (T.setNo i none).2),
        L.rt, ⟨fun _ _ _ _ => False, takes0, fun _ _ _ _ _ q => q.elim⟩⟩ [] s5 J5
    refine wpAny_mono go (fun f s6 h6 => ?_) fun _ _ z => z.elim
    have gone : ∀ {σ6 : L2.St} {H6 : Hp} {R : Shared → Prop}, Inv (X.suite a (X.pn ++ pins)) [] σ6 H6 s6 → (∀ s7, Inv X pins (σ6.set i none) H6 s7 → R s7) →
        wpAny (model X.prog X.w) X.A (do bindName X.env n .none; unbindBehindTheSuite X.env n pos') (fun _ s7 => R s7) X.xe s6 := fun {σ6 H6 R} T hq => gone_ok (inv_left T ok) hN hi hln hq
    cases f with
    | next => obtain ⟨σ6, H6, T, q6⟩ := h6; exact gone T fun s7 J7 => ⟨_, _, J7, q6⟩
    | brk => obtain ⟨σ6, H6, T, q6⟩ := h6; exact gone T fun s7 J7 => ⟨_, _, J7, q6⟩
    | cont => obtain ⟨σ6, H6, T, q6⟩ := h6; exact gone T fun s7 J7 => ⟨_, _, J7, q6⟩
    | ret u => obtain ⟨v6, σ6, H6, T, r6, q6⟩ := h6; exact gone T fun s7 J7 => ⟨_, _, _, J7, r6, q6⟩
  refine wpAny_mono (hb (X.pn ++ pins) xe1 PassesOwn.looking σ H D S ⟨L.nx, L.bk, L.ct, L.rt, ⟨W1, catches, fun nm Cl ρ' σ' H' q k T y => ⟨nm, Cl, ρ', rfl, rfl, k, q, T, y⟩⟩⟩ [] s (J.toTry _)) (fun f s1 hsp => ?_) (fun z s1 he => he)
  cases f with
  | next => obtain ⟨σ', H', J', q⟩ := hsp; exact wpAny_execs_nil ⟨σ', H', J'.ofTry ok, q⟩
  | brk => obtain ⟨σ', H', J', q⟩ := hsp; exact ⟨σ', H', J'.ofTry ok, q⟩
  | cont => obtain ⟨σ', H', J', q⟩ := hsp; exact ⟨σ', H', J'.ofTry ok, q⟩
  | ret u => obtain ⟨v, σ', H', J', r, q⟩ := hsp; exact ⟨v, σ', H', J'.ofTry ok, r, q⟩
end
end DL
namespace DL
open PySem PySem.Spec PyProof.Rows L2
/-! ### classes asked of an exception -/
theorem kit_own {K : PySem.W.Frag} {mg : Str → Option Value} {x : Str} {A B : Addr} {r : Bool} (E : ExcT K mg x B) (hs : PySem.W.subIn K (.ref B) (.ref B) = some true) (h : PySem.W.subIn K (.ref A) (.ref B) = some r) : PySem.W.kitOne K (.ref A) (.ref B) = some r := by
  unfold PySem.W.kitOne
  split
  · rename_i q
    have e := eq_of_beq q
    cases e
    rw [hs] at h
    exact h
  · have m := PySem.W.exm_ref (cls := .ref A) E.bF E.ec.hd E.tF h
    unfold PySem.W.exmOne at m
    split at m
    · exact m
    · cases m
theorem kit_ve {K : PySem.W.Frag} {A : Addr} {r : Bool} (h : PySem.W.subIn K (.ref A) (.type "ValueError") = some r) : PySem.W.kitOne K (.ref A) (.type "ValueError") = some r := by
  unfold PySem.W.kitOne
  rw [if_neg (by simp)]
  unfold PySem.W.kitCls
  dsimp only
  rw [if_pos (by decide +kernel)]
  exact h
theorem exm_own {K : PySem.W.Frag} {mg : Str → Option Value} {x : Str} {A B : Addr} {r : Bool} (E : ExcT K mg x B) (h : PySem.W.subIn K (.ref A) (.ref B) = some r) : PySem.W.exmOne K (.ref A) (.ref B) = some r := PySem.W.exm_ref E.bF E.ec.hd E.tF h
/-! ### tuples or lists -/
/-- a tuple (true) or a list -/
abbrev seqD (b : Bool) (ds : List D) : D := bif b then .tup ds else .lst ds
section
variable {X : Cx} {C : Ctx} {ρ : Rho} {e tg : Expr} {b : Bool} {ds : List D}
theorem ei_seq (h : EE X C ρ e (seqD b ds)) : EI X C ρ tg e ds := by
  cases b with
  | true => exact ei_tup h
  | false => exact ei_list h
end
section
variable {X : Cx} {C : Ctx} {ρ ρw : Rho} {e elt tg iter : Expr} {ifs : List Expr} {scope : Scope} {own : List (Str × Nat)} {pos spos py : Pos} {P : Post}
theorem filter_all {β : Type} (xs : List β) : xs.filter (fun _ => true) = xs := List.filter_eq_self.2 fun _ _ => rfl
/-- a comprehension without a test -/
theorem ef_lcA {β : Type} {xs : List β} {enc : β → D} (f : β → D) (hi : EI X C ρ tg iter (xs.map enc)) (hs : LcOk X scope own tg ifs elt ρw xs enc (fun _ => true) f) (hw : wipeR ρ (own.map (·.2)) = ρw) (how : ows ρw = ows ρ) (hz : xs.length ≤ sizeLine)
    (ok : BlkOk X.N X.env.scope scope own) (hN : X.N.Nodup) (hc : X.calm = true := by rfl) (hf : ∀ x, foldedSetIterable iter X.env x = pure x := by intro _; rfl) : EF X C ρ (.ListComp elt [⟨tg, iter, ifs, 0⟩] scope pos) (xs.map f) :=
  (ef_lc hi hs hw how hz ok hN hc hf).eq (by rw [filter_all])
theorem ws_setLcA {β : Type} (i : Nat) {y : Str} {xs : List β} {enc : β → D} (f : β → D) (hi : EI X C ρ tg iter (xs.map enc)) (hs : LcOk X scope own tg ifs elt ρw xs enc (fun _ => true) f) (h : ∀ a, P.nx (ρ.set i (.ow a (xs.map f)))) (hw : wipeR ρ (own.map (·.2)) = ρw) (how : ows ρw = ows ρ) (hz : xs.length ≤ sizeLine)
    (ok : BlkOk X.N X.env.scope scope own) (hN : X.N.Nodup) (hl : i < ρ.length := by exact Nat.le_of_ble_eq_true rfl) (hy : X.N[i]? = some y := by rfl) (hyl : X.env.scope.names.lookup y = some .local := by rfl) (hsw : swapsWith (.ListComp elt [⟨tg, iter, ifs, 0⟩] scope pos) (some (.Name y py)) spos.line X.env = pure true := by exact sw_true rfl rfl rfl (by decide +kernel))
    (hc : X.calm = true := by rfl) (hf : ∀ x, foldedSetIterable iter X.env x = pure x := by intro _; rfl) : WS X C ρ (.Assign [.Name y py] (.ListComp elt [⟨tg, iter, ifs, 0⟩] scope pos) spos) P :=
  ws_setLc i hi hs (fun a => by rw [filter_all]; exact h a) hw how hz ok hN hl hy hyl hsw hc hf
end
/-! ### a place or nothing -/
def oP : Option P3 → D
  | none => .non
  | some p => t3 p
section
variable {X : Cx} {C : Ctx} {ρ : Rho} {a b : Expr}
theorem good_oP (p : Option P3) : (oP p).Good := by
  cases p with
  | none => exact ⟨rfl, Nat.le_of_ble_eq_true rfl⟩
  | some p => exact good_t3 p
theorem eqb_oP (p q : Option P3) : D.eqb (oP p) (oP q) = decide (p = q) := by
  cases p with
  | none =>
    cases q with
    | none => unfold D.eqb oP; rw [decide_eq_true rfl]; simp [D.py, PyData.eqv]
    | some q => unfold D.eqb oP t3; rw [decide_eq_false (by simp)]; simp [D.py, PyData.eqv]
  | some p =>
    cases q with
    | none => unfold D.eqb oP t3; rw [decide_eq_false (by simp)]; simp [D.py, PyData.eqv]
    | some q => show D.eqb (t3 p) (t3 q) = _; rw [eqb_t3]; simp
theorem ec_eqO {p q : Option P3} (hu : X.A.units + 64 < cLine) (ha : EE X C ρ a (oP p)) (hb : EE X C ρ b (oP q)) : EC X C ρ .Eq a b (.bl (decide (p = q))) := (ec_eqD hu ha hb (good_oP p) (good_oP q)).eq (by rw [eqb_oP])
theorem ec_neO {p q : Option P3} (hu : X.A.units + 64 < cLine) (ha : EE X C ρ a (oP p)) (hb : EE X C ρ b (oP q)) : EC X C ρ .NotEq a b (.bl (!decide (p = q))) := (ec_neD hu ha hb (good_oP p) (good_oP q)).eq (by rw [eqb_oP])
theorem isNon_oP (p : Option P3) : (oP p).isNon = decide (p = none) := by cases p <;> rfl
end
section
variable {X : Cx} {C : Ctx} {ρ : Rho} {a b : Expr}
/-- (i, j) < (k, l) -/
theorem ec_lt2 {i j k l : Int} (hu : X.A.units + 64 < cLine) (ha : EE X C ρ a (.tup [.int i, .int j])) (hb : EE X C ρ b (.tup [.int k, .int l])) : EC X C ρ .Lt a b (.bl (decide (i < k ∨ (i = k ∧ j < l)))) :=
  (ec_ltT (ns := [i, j]) (ms := [k, l]) (by omega) ha hb).eq (by
    rw [HT.lexLt_cons, HT.lexLt_cons, HT.lexLt_nil_nil]
    by_cases h1 : i = k
    · rw [if_pos h1]
      by_cases h2 : j = l
      · rw [if_pos h2, decide_eq_false (by omega)]
      · rw [if_neg h2]; congr 1; simp [h1]
    · rw [if_neg h1]; congr 1; simp [h1])
end
theorem of_not_dec {p : Prop} [Decidable p] (h : (!decide p) = true) : ¬ p := by simpa using h
theorem EI.eq {X : Cx} {C : Ctx} {ρ : Rho} {tg iter : Expr} {ds es : List D} (h : EI X C ρ tg iter ds) (q : ds = es) : EI X C ρ tg iter es := q ▸ h
end DL

namespace DL
open PySem PySem.Spec PyProof.Rows L2
section
variable {X : Cx} {C : Ctx} {ρ ρ' : Rho} {P : Post} {e a b : Expr} {es : List Expr} {d da db : D} {ds es' : List D} {pos p : Pos}
/-! ### new lists from lists -/
theorem reps_fresh {H : Hp} {σ : L2.St} (S : SRel X.K C H σ ρ) {z : Addr} {o : HO} (nz : H z = none) {vs : List V} {ds : List D} (r : Reps X.K (vis C (ows ρ) H) vs ds) : Reps X.K (vis C (z :: ows ρ) (upd H z o)) vs ds := Reps.mono (vis_new_same S.visIn nz (same_upd nz)) _ r
theorem reverse_reps {K : PySem.W.Frag} {H : Hp} : ∀ {vs : List V} {ds : List D}, Reps K H vs ds → Reps K H vs.reverse ds.reverse
  | _, _, .nil => .nil
  | _, _, .cons r t => by
    rw [List.reverse_cons, List.reverse_cons]
    exact (reverse_reps t).append (.cons r .nil)
/-- xs[::-1] -/
theorem ef_rev {k : Nat} {p1 p2 p3 : Pos} (h : EL X C ρ e ds) : EF X C ρ (.Subscript e (.Slice none none (some (.UnaryOp .USub (.Constant (.int 1) k p1) p2)) p3) pos) ds.reverse := fun σ H S Q q =>
  wpE_of (pe_revL pe_wp) (h σ H S _ fun a xs H1 s1 sq r1 => ⟨a, xs, rfl, sq, fun z nz => q z _ _ (s1.free nz) (s1.trans (same_upd nz)) upd_same (reps_fresh (S.same s1) nz (reverse_reps r1))⟩)
def rCatL (K : PySem.W.Frag) : R2 := fun x y H Q => ∃ l b xs zs, x = .ref l ∧ y = .ref b ∧ SqL K H l xs ∧ SqL K H b zs ∧ xs.length + zs.length ≤ sizeLine ∧ ∀ p, H p = none → Q (.ref p) (upd H p (.lst (xs ++ zs)))
theorem op_catL : OpR X (binaryOp .Add) (rCatL X.K) := by
  intro pins s σ H x y v u Q J rx ry h
  obtain ⟨l, b, xs, zs, rfl, rfl, hl, hb, hz, q⟩ := h
  cases rx
  cases ry
  obtain ⟨as, r, ⟨⟨_, d1, _, s1⟩, n, e, c1, c2, c3⟩, _⟩ := J.list hl
  obtain ⟨bs, r2, ⟨⟨_, d2, _, s2⟩, n2, e2, c4, c5, c6⟩, _⟩ := J.list hb
  simp only at c1 c3 c4 c6
  subst c1 c3 c4 c6
  have l1 := r.length
  have l2 := r2.length
  refine concat_meets ⟨_, e, rfl⟩ ⟨_, e2, rfl⟩ noFill_list_add seq_list_add PySem.F.slot_list_add PySem.F.entry_list_add (PySem.F.args_list_add_2 _ _) (list_addW l b as.toArray bs.toArray n n2 d1 d2 s1 s2 (by rw [List.size_toArray, List.size_toArray]; omega)) ⟨e, e2, ?_⟩
  rw [show as.toArray ++ bs.toArray = (as ++ bs).toArray by simp]
  exact ⟨.ref _, _, J.lnew (t' := s.toks) (r.append r2) (by rw [List.length_append]; omega), rfl, q _ J.fresh⟩
/-- xs + ys -/
theorem ef_cat (ha : EL X C ρ a ds) (hb : EL X C ρ b es') (hz : ds.length + es'.length ≤ sizeLine) : EF X C ρ (.BinOp a .Add b pos) (ds ++ es') := fun σ H S Q q =>
  wpE_of (pe_op op_catL pe_wp pe_wp) (ha σ H S _ fun l xs H1 s1 sq r1 => hb σ H1 (S.same s1) _ fun m zs H2 s2 sq2 r2 => ⟨l, m, xs, zs, rfl, rfl, s2.seq sq, sq2, by rw [r1.length, r2.length]; exact hz, fun z nz =>
    q z _ _ ((s1.trans s2).free nz) ((s1.trans s2).trans (same_upd nz)) upd_same (reps_fresh ((S.same s1).same s2) nz ((Reps.mono (vis_same s2) _ r1).append r2))⟩)
/-! ### in -/
theorem any_py (f : PyData → Bool) : ∀ l : List D, (D.pys l).any f = l.any fun z => f z.py
  | [] => rfl
  | z :: l => by rw [D.pys, List.any_cons, List.any_cons, any_py f l]
theorem ec_inD (hu : X.A.units + 65 < cLine) (ha : EE X C ρ a da) (hb : EL X C ρ b ds) (ga : da.Good) (gb : (D.lst ds).Good) : EC X C ρ .In a b (.bl (ds.any fun z => D.eqb z da)) := fun σ H S Q q pins s J => by
  refine binT pe_wp pe_wp J (R := fun v u H2 => rInD X.K v u H2 Q) (ha σ H S _ fun v H1 s1 r1 => hb σ H1 (S.same s1) _ fun l xs H2 s2 sq r2 => ?_) fun v u s2 x y H2 J2 rx ry q2 => op_inD hu pins s2 σ H2 x y v u Q J2 rx ry q2
  have S2 := (S.same s1).same s2
  refine ⟨da.py, D.pys ds, D.dp _ ga.1 (Rep.mono S2.visIn _ (Rep.mono (vis_same s2) _ r1)), .lst sq (D.dps ds gb.1 (Reps.mono S2.visIn _ r2)), ga.shaped, gb.shaped, ?_⟩
  rw [any_py]
  exact q H2 (s1.trans s2)
theorem ec_ninD (hu : X.A.units + 65 < cLine) (ha : EE X C ρ a da) (hb : EL X C ρ b ds) (ga : da.Good) (gb : (D.lst ds).Good) : EC X C ρ .NotIn a b (.bl (!ds.any fun z => D.eqb z da)) := fun σ H S Q q pins s J => by
  refine binT pe_wp pe_wp J (R := fun v u H2 => rNotInD X.K v u H2 Q) (ha σ H S _ fun v H1 s1 r1 => hb σ H1 (S.same s1) _ fun l xs H2 s2 sq r2 => ?_) fun v u s2 x y H2 J2 rx ry q2 => op_notInD hu pins s2 σ H2 x y v u Q J2 rx ry q2
  have S2 := (S.same s1).same s2
  refine ⟨da.py, D.pys ds, D.dp _ ga.1 (Rep.mono S2.visIn _ (Rep.mono (vis_same s2) _ r1)), .lst sq (D.dps ds gb.1 (Reps.mono S2.visIn _ r2)), ga.shaped, gb.shaped, ?_⟩
  rw [any_py]
  exact q H2 (s1.trans s2)
theorem ints_ok : ∀ l : List Int, D.pysOk (D.ints l) = true ∧ D.deps (D.ints l) = 0
  | [] => ⟨rfl, rfl⟩
  | i :: l => by
    obtain ⟨h1, h2⟩ := ints_ok l
    refine ⟨?_, ?_⟩
    · show (D.pyOk (.int i) && D.pysOk (D.ints l)) = true
      rw [h1]; rfl
    · show max (D.dep (.int i)) (D.deps (D.ints l)) = 0
      rw [h2]; rfl
theorem good_ints (l : List Int) : (D.lst (D.ints l)).Good := ⟨(ints_ok l).1, by show D.deps (D.ints l) + 1 ≤ 64; rw [(ints_ok l).2]; decide⟩
theorem good_int (i : Int) : (D.int i).Good := ⟨rfl, Nat.zero_le _⟩
theorem any_ints (i : Int) (l : List Int) : ((D.ints l).any fun z => D.eqb z (.int i)) = decide (i ∈ l) := by
  induction l with
  | nil => rfl
  | cons j l ih =>
    show (D.eqb (.int j) (.int i) || (D.ints l).any fun z => D.eqb z (.int i)) = _
    rw [ih, show D.eqb (.int j) (.int i) = decide (j = i) from eqb_int j i]
    simp [List.mem_cons, eq_comm]
theorem ec_inI {i : Int} {l : List Int} (hu : X.A.units + 65 < cLine) (ha : EE X C ρ a (.int i)) (hb : EL X C ρ b (D.ints l)) : EC X C ρ .In a b (.bl (decide (i ∈ l))) := (ec_inD hu ha hb (good_int i) (good_ints l)).eq (by rw [any_ints])
theorem ec_ninI {i : Int} {l : List Int} (hu : X.A.units + 65 < cLine) (ha : EE X C ρ a (.int i)) (hb : EL X C ρ b (D.ints l)) : EC X C ρ .NotIn a b (.bl (!decide (i ∈ l))) := (ec_ninD hu ha hb (good_int i) (good_ints l)).eq (by rw [any_ints])
/-! ### xs.pop() -/
theorem getLast_split {ds : List D} (h : ds ≠ []) : ∃ i d, i = ds.length - 1 ∧ ds[i]? = some d := ⟨ds.length - 1, ds[ds.length - 1]'(by have := List.length_pos_iff.mpr h; omega), rfl, List.getElem?_eq_getElem _⟩
theorem dropLast_reps {K : PySem.W.Frag} {H : Hp} {vs : List V} {ds : List D} (r : Reps K H vs ds) : Reps K H vs.dropLast ds.dropLast := by
  rw [List.dropLast_eq_take, List.dropLast_eq_take, r.length]
  exact r.take _
theorem ws_pop (i : Nat) {x : Str} {p1 p2 p3 : Pos} {l : Addr} (hr : ρ[i]? = some (.ow l ds) := by rfl) (hne : ds ≠ []) (hρ : ρ.set i (.ow l ds.dropLast) = ρ') (h : P.nx ρ') (hN : X.N[i]? = some x := by rfl)
    (hv : Vis X.env.scope x := by first | exact Or.inl rfl | exact Or.inr (Or.inl rfl) | exact Or.inr (Or.inr rfl)) (hs : swapsWith (.Call (.Attribute (.Name x p1) "pop" p2) [] [] p3) none pos.line X.env = pure false := by rfl)
    (hline : (p2.endLine == p3.line) = true := by rfl) (hd : (x == ("__debug__" : Str)) = false := by decide) (hcd : (x == ("__classdict__" : Str)) = false := by decide) : WS X C ρ (.Expr (.Call (.Attribute (.Name x p1) "pop" p2) [] [] p3) pos) P := fun σ H D S L => by
  subst hρ
  obtain ⟨h1, xs, h2, h3⟩ := S.ow i l ds hr
  obtain ⟨_, d, rfl, hd'⟩ := getLast_split hne
  obtain ⟨v, hv', rv⟩ := h3.get hd'
  refine wpS_of (ps_expr (pe_bm0 PySem.F.plainAttrs_list PySem.F.slot_list_pop PySem.F.type_list_pop mt_pop (pe_var hN hv hd hcd) rfl hline) hs) ⟨_, h1, .inl ⟨rfl, _, .inl (.inl h2)⟩, ?_⟩
  obtain ⟨S2, s2⟩ := S.updOw i hr (dropLast_reps h3)
  exact ⟨l, xs, v, rfl, rfl, h2, by rw [h3.length]; exact hv', L.nx _ _ _ h S2 s2⟩
end
end DL

namespace DL
open PySem PySem.Spec PyProof.Rows L2
/-! ### defs whose last parameter is None by default -/
structure AtN (K : PySem.W.Frag) (mg : Str → Option Value) (x : Str) (st : Stmt) (ps : List Str) (z : Str) : Prop where
  ex : ∃ f fd, FunD K x x (defArgs st) (defBody st) (defScope st) [.non] [] f fd ∧ mg x = some (.ref f) ∧ Binds K fd ps [] ∧ Binds K fd ps [.none] ∧ KBn K fd ps (ps.length - 1) [z] (fun us ws => us ++ ws) fun vs zs => vs ++ zs
theorem vals_nil {ds : List Value} (h : Vals [] ds) : ds = [] := by cases h; rfl
theorem vals_non {ds : List Value} (h : Vals [.non] ds) : ds = [.none] := by
  cases h with
  | cons r t => cases r; cases t; rfl
theorem atN_mk {K : PySem.W.Frag} {h : Heap} {mg : Str → Option Value} {x z : Str} {st : Stmt} {ps : List Str} {f T : Addr} {o : Obj} {n : Nat} {oc : Value} {od an : Option Addr} {osl : Array (Option Value)} {kV doc pm cdv ct : Value} (X : K.In h) (G : h.Ns mainGlobals mg)
    (a : PySem.W.nsIn K mainGlobals x = some (some (.ref f))) (l : K.lookup f = some ⟨oc, od, .func (PySem.W.fnOf x x (defArgs st) (defBody st) (defScope st) (.ref T) kV doc pm an cdv ct), osl⟩) (c : PySem.W.codeIn K cdv x = true) (k : PySem.W.keepIn K (.ref f) = true)
    (t : K.lookup T = some o) (q : o.data = .seq (List.toArray [Value.none]) n)
    (b1 : ∀ (T : Addr) (kV doc pm : Value) (an : Option Addr) (cdv ct : Value) (us its : List Value), us.length = ps.length → its.length = 1 → ∃ k, bindArgs (PySem.W.fnOf x x (defArgs st) (defBody st) (defScope st) (.ref T) kV doc pm an cdv ct) ⟨us, []⟩ = seqItems? (.ref T) >>= k ∧ k (some its.toArray) = pure (ps.zip (us ++ its.drop 1)))
    (b0 : ∀ (T : Addr) (kV doc pm : Value) (an : Option Addr) (cdv ct : Value) (us its : List Value), us.length = ps.length - 1 → its.length = 1 → ∃ k, bindArgs (PySem.W.fnOf x x (defArgs st) (defBody st) (defScope st) (.ref T) kV doc pm an cdv ct) ⟨us, []⟩ = seqItems? (.ref T) >>= k ∧ k (some its.toArray) = pure (ps.zip (us ++ its.drop 0)))
    (bk : ∀ (T : Addr) (kV doc pm : Value) (an : Option Addr) (cdv ct : Value) (us ws its : List Value), us.length = ps.length - 1 → ws.length = 1 → its.length = 1 → ∃ k, bindArgs (PySem.W.fnOf x x (defArgs st) (defBody st) (defScope st) (.ref T) kV doc pm an cdv ct) ⟨us, [z].zip ws⟩ = seqItems? (.ref T) >>= k ∧ k (some its.toArray) = pure (ps.zip (us ++ ws)))
    (hp : ps.length - 1 + 1 = ps.length) : AtN K mg x st ps z := by
  have F : FunD K x x (defArgs st) (defBody st) (defScope st) [.non] [] f (PySem.W.fnOf x x (defArgs st) (defBody st) (defScope st) (.ref T) kV doc pm an cdv ct) :=
    ⟨⟨oc, od, .ref T, kV, doc, pm, an, cdv, ct, osl, rfl, l, c, .inr ⟨by simp, T, o, [.none], n, rfl, t, q, .cons rfl .nil⟩, .inl rfl⟩, k⟩
  obtain ⟨d1, v1, B1⟩ := F.binds1 ps.length 1 (by simp) (by simp) fun T kV doc pm an cdv ct us its h1 h2 => b1 T kV doc pm an cdv ct us its h1 h2
  obtain ⟨d0, v0, B0⟩ := F.binds1 (ps.length - 1) 0 (by simp) (by simpa using hp) fun T kV doc pm an cdv ct us its h1 h2 => b0 T kV doc pm an cdv ct us its h1 h2
  have e1 := vals_nil v1
  have e0 := vals_non v0
  subst e1 e0
  refine ⟨f, _, F, PySem.W.mg_of X G a, B1, B0, ⟨fun s us ws Y h1 h2 => ?_, fun r1 r2 => r1.append r2⟩⟩
  obtain ⟨g, e1, e2⟩ := bk T kV doc pm an cdv ct us ws [.none] h1 h2 rfl
  refine BindsTo.of_looks fun M => ?_
  rw [e1]
  exact looks_items Y t q (.of_pure e2)
structure CalN (P : Program) (w : World) (K : PySem.W.Frag) (mg : Str → Option Value) (base : Heap) (k : Nat) (x : Str) (ps : List Str) (z : Str) (sp : Sp) : Prop where
  ex : ∃ (f : Addr) (fd : FuncData), mg x = some (.ref f) ∧ PySem.W.keepIn K (.ref f) = true ∧ Binds K fd ps [] ∧ Binds K fd ps [.none] ∧ KBn K fd ps (ps.length - 1) [z] (fun us ws => us ++ ws) (fun vs zs => vs ++ zs) ∧ FnOk P w K mg base (L2.CX P w) k f fd ps sp
section
variable {P : Program} {w : World} {K : PySem.W.Frag} {mg : Str → Option Value} {base : Heap}
theorem CalN.x {k : Nat} {x z : Str} {ps : List Str} {sp : Sp} (h : CalN P w K mg base k x ps z sp) : CalX P w K mg base k x ps sp :=
  let ⟨f, fd, h1, h2, h3, _, _, h6⟩ := h.ex
  ⟨f, fd, h1, h2, h3, h6⟩
theorem CalN.cal {k : Nat} {x z : Str} {ps : List Str} {sp : Sp} (h : CalN P w K mg base k x ps z sp) : Cal P w K mg base k x ps sp := h.x.cal
theorem CalN.of_body {α : Type} {arg : α → List D} {pre : α → Prop} {res : α → Res} {x z : Str} {st : Stmt} {f : Addr} {fd : FuncData} {N ps : List Str} {k : Nat} (F : FunD K x x (defArgs st) (defBody st) (defScope st) [.non] [] f fd) (hm : mg x = some (.ref f)) (hb : Binds K fd ps []) (hb0 : Binds K fd ps [.none])
    (hbk : KBn K fd ps (ps.length - 1) [z] (fun us ws => us ++ ws) fun vs zs => vs ++ zs) (S : FnScope N ps (defScope st)) (hl : ∀ y, (arg y).length = ps.length)
    (body : ∀ (cdv : Value) (A : Around) (outer : List Env) (s : Shared) (H : Hp) (E : XK) (C : Ctx), Room k (A.deeper (envOfC x (defScope st) s.heap.objs.size f cdv)) → ∀ y, pre y →
      WP (cxOf (L2.CX P w) P w K mg base N x (defScope st) f cdv A outer s H E) C (startR N (arg y)) (defBody st) (fnPost (res y))) : CalN P w K mg base (k + 1) x ps z (spF K arg pre res) := by
  refine ⟨f, fd, hm, F.kp, hb, hb0, hbk, F.ok S (spF_len hl) fun cdv A outer s H vs Q E hr h => ?_⟩
  obtain ⟨G, y, g, r, hp, q, qe⟩ := h
  refine ⟨wpSs _ (defBody st), pss_wp, body cdv A outer s H E ⟨H, G, []⟩ hr y hp _ H _ (srel_start (ps := ps) g r) ⟨fun ρ σ H' h S' _ => ?_, fun ρ σ H' h => h.elim, fun ρ σ H' h => h.elim, fun t v H' h s rr => q t v H' h s rr, ⟨fun cls d _ H => E cls d H, takes_of rfl rfl rfl rfl, fun n c ρ σ H' h k S' _ => qe n c H' h k S'.hh⟩⟩⟩
  exact q _ _ H' h S'.hh (.at .non)
end
section
variable {X : Cx} {C : Ctx} {ρ : Rho} {e ke : Expr} {es : List Expr} {d dk : D} {ds : List D} {pos p kp : Pos} {α : Type} {arg : α → List D} {pre : α → Prop} {res : α → Res} {k : Nat} {x z : Str} {ps : List Str}
/-- the last one is left out -/
theorem ee_callN (y : α) (F : CalN X.prog X.w X.K X.mg X.base k x ps z (spF X.K arg pre res)) (hr : Room k X.A) (ha : EA X C ρ (e :: es) ds) (harg : ds ++ [.non] = arg y) (hp : pre y) (hd : res y = .ok (.im d)) (hg : Gl X x := by rfl) (hdb : (x == ("__debug__" : Str)) = false := by decide)
    (he : starEach (e :: es) X.env = (false, eval e X.env) :: starEach es X.env := by rfl) (hpl : (backTo pos (starEach es X.env)).any (·.1) = false := by rfl) : EE X C ρ (.Call (.Name x p) (e :: es) [] pos) d := fun σ H S Q q => by
  obtain ⟨f, fd, hm, hk, _, hb, _, G⟩ := F.ex
  refine wpE_of (pe_call (dvs := [.non]) G hr hg hm hk hb (.cons rfl .nil) passL pa_wp hdb he hpl) (ha σ H S _ fun vs H1 s1 r1 => ?_)
  have S1 := S.same s1
  refine ⟨vis C (ows ρ) H1, y, S1.visIn, harg ▸ r1.append (.cons (.at .non) .nil), hp, fun r v H2 hr2 s2 rr => ?_, fun n c H2 hr2 _ _ => by rw [hd] at hr2; cases hr2⟩
  rw [hd] at hr2
  cases hr2
  exact q v H2 (s1.trans s2) (Rep.mono (vis_callee (l := []) S1.hh (fun a h => (S1.fr a h).2) (fun _ z => absurd z List.not_mem_nil) s2) _ rr)
/-- the last one is given by its name -/
theorem ee_callK (y : α) (F : CalN X.prog X.w X.K X.mg X.base k x ps z (spF X.K arg pre res)) (hr : Room k X.A) (ha : EA X C ρ (e :: es) ds) (hke : EE X C ρ ke dk) (hlen : ds.length = ps.length - 1) (harg : ds ++ [dk] = arg y) (hp : pre y) (hd : res y = .ok (.im d)) (hg : Gl X x := by rfl)
    (hdb : (x == ("__debug__" : Str)) = false := by decide) (hall : (backToKw pos (keywordEach [⟨some z, ke, kp⟩] X.env)).all (·.1.isSome) = true := by rfl) (hks : (backToKw pos (keywordEach [⟨some z, ke, kp⟩] X.env)).filterMap (·.1) = [z] := by rfl)
    (he : starEach (e :: es) X.env = (false, eval e X.env) :: starEach es X.env := by rfl) (hpl : ((backTo pos (starEach (e :: es) X.env)).any (·.1) || (backToKw pos (keywordEach [⟨some z, ke, kp⟩] X.env)).any (·.1.isNone)) = false := by rfl) :
    EE X C ρ (.Call (.Name x p) (e :: es) [⟨some z, ke, kp⟩] pos) d := fun σ H S Q q => by
  obtain ⟨f, fd, hm, hk, _, _, hb, G⟩ := F.ex
  refine wpE_of (pe_callN G hr hg hm hk hb passL pa_wp (pk_cons pe_wp pk_nil) hall hks hdb he hpl) (ha σ H S _ fun vs H1 s1 r1 => ?_)
  have S1 := S.same s1
  refine hke σ H1 S1 _ fun u H2 s2 r2 => ?_
  have S2 := S1.same s2
  refine ⟨by rw [r1.length]; exact hlen, rfl, vis C (ows ρ) H2, y, S2.visIn, harg ▸ (Reps.mono (vis_same s2) _ r1).append (.cons r2 .nil), hp, fun r v H3 hr2 s3 rr => ?_, fun n c H3 hr2 _ _ => by rw [hd] at hr2; cases hr2⟩
  rw [hd] at hr2
  cases hr2
  exact q v H3 ((s1.trans s2).trans s3) (Rep.mono (vis_callee (l := []) S2.hh (fun a h => (S2.fr a h).2) (fun _ z => absurd z List.not_mem_nil) s3) _ rr)
end
end DL

namespace DL
open PySem PySem.Spec PyProof.Rows L2
/-! ### defs of which only something is told -/
def spQ {α : Type} (K : PySem.W.Frag) (arg : α → List D) (pre : α → Prop) (post : α → Ret → Prop) : Sp := fun vs H Q E => ∃ (G : Hp) (x : α), Same G H ∧ Reps K G vs (arg x) ∧ pre x ∧ ∀ r v H', post x r → Same H H' → RetR K ⟨H, G, []⟩ H' v r → Q v H'
def qPost (post : Ret → Prop) : Post := { nx := fun _ => post (.im .non), rt := post, er := fun _ _ => False }
section
variable {P : Program} {w : World} {K : PySem.W.Frag} {mg : Str → Option Value} {base : Heap}
theorem spQ_len {α : Type} {arg : α → List D} {pre : α → Prop} {post : α → Ret → Prop} {n : Nat} (hl : ∀ y, (arg y).length = n) : ∀ vs H Q E, spQ K arg pre post vs H Q E → vs.length = n := fun vs H Q E h => by
  obtain ⟨G, y, _, r, _⟩ := h
  rw [r.length, hl]
theorem Cal.of_bodyQ {α : Type} {arg : α → List D} {pre : α → Prop} {post : α → Ret → Prop} {x qual : Str} {st : Stmt} {f : Addr} {fd : FuncData} {N ps : List Str} {k : Nat} (F : Fun K x qual st f fd) (hm : mg x = some (.ref f)) (hb : Binds K fd ps []) (S : FnScope N ps (defScope st)) (hl : ∀ y, (arg y).length = ps.length)
    (body : ∀ (cdv : Value) (A : Around) (outer : List Env) (s : Shared) (H : Hp) (E : XK) (C : Ctx), Room k (A.deeper (envOfC qual (defScope st) s.heap.objs.size f cdv)) → ∀ y, pre y →
      WP (cxOf CX0 P w K mg base N qual (defScope st) f cdv A outer s H E).nox C (startR N (arg y)) (defBody st) (qPost (post y))) : Cal P w K mg base (k + 1) x ps (spQ K arg pre post) := by
  refine ⟨f, fd, CX0, hm, F.kp, hb, F.ok S (spQ_len hl) fun cdv A outer s H vs Q E hr h => ?_, fun X _ _ => pass0⟩
  obtain ⟨G, y, g, r, hp, q⟩ := h
  refine ⟨wpSs _ (defBody st), pss_wp, body cdv A outer s H E ⟨H, G, []⟩ hr y hp _ H _ (srel_start (ps := ps) g r) ⟨fun ρ σ H' h S' _ => ?_, fun ρ σ H' h => h.elim, fun ρ σ H' h => h.elim, fun t v H' h s rr => q t v H' h s rr, ⟨fun _ _ _ _ => False, takes0, fun n c ρ σ H' h => h.elim⟩⟩⟩
  exact q _ _ H' h S'.hh (.at .non)
end
section
variable {X : Cx} {C : Ctx} {ρ ρ' : Rho} {P : Post} {e tg : Expr} {es : List Expr} {pos p py : Pos} {α : Type} {arg : α → List D} {pre : α → Prop} {post : α → Ret → Prop} {k : Nat} {x z : Str} {ps : List Str}
/-- what a call of such a def comes to -/
theorem callQ (y : α) (F : Cal X.prog X.w X.K X.mg X.base k x ps (spQ X.K arg pre post)) (hr : Room k X.A) (ha : EA X C ρ (e :: es) (arg y)) (hp : pre y) (hg : Gl X x) (hdb : (x == ("__debug__" : Str)) = false)
    (he : starEach (e :: es) X.env = (false, eval e X.env) :: starEach es X.env) (hpl : (backTo pos (starEach es X.env)).any (·.1) = false) {σ : L2.St} {H : Hp} (S : SRel X.K C H σ ρ) {Q : VK} (q : ∀ r, post y r → ∀ H1 v H2, Same H H1 → SRel X.K C H1 σ ρ → Same H1 H2 → RetR X.K ⟨H1, vis C (ows ρ) H1, []⟩ H2 v r → Q v H2) : wpE X (.Call (.Name x p) (e :: es) [] pos) σ H Q := by
  obtain ⟨f, fd, CX, hm, hk, hb, F, hx⟩ := F.ex
  refine wpE_of (pe_call (dvs := []) F hr hg hm hk hb .nil (hx X rfl rfl) pa_wp hdb he hpl) (ha σ H S _ fun vs H1 s1 r1 => ?_)
  have S1 := S.same s1
  rw [List.append_nil]
  exact ⟨vis C (ows ρ) H1, y, S1.visIn, r1, hp, fun r v H2 hr2 s2 rr => q r hr2 H1 v H2 s1 S1 s2 rr⟩
theorem ret_im {σ : L2.St} {H1 H2 : Hp} {v : V} {d : D} (S1 : SRel X.K C H1 σ ρ) (s2 : Same H1 H2) (rr : RetR X.K ⟨H1, vis C (ows ρ) H1, []⟩ H2 v (.im d)) : Rep X.K (vis C (ows ρ) H2) v d :=
  Rep.mono (vis_callee (l := []) S1.hh (fun a h => (S1.fr a h).2) (fun _ z => absurd z List.not_mem_nil) s2) _ rr
/-- x = f(..), data comes back -/
theorem ws_setQ (i : Nat) {n : Str} {spos : Pos} (y : α) (F : Cal X.prog X.w X.K X.mg X.base k x ps (spQ X.K arg pre post)) (hr : Room k X.A) (ha : EA X C ρ (e :: es) (arg y)) (hp : pre y) (h : ∀ r, post y r → ∃ d, r = .im d ∧ P.nx (ρ.set i (.im d))) (hN : X.N.Nodup) (hi : X.N[i]? = some n := by rfl) (hx : Loc X.env.scope n := by first | exact Or.inl rfl | exact Or.inr rfl)
    (hs : swapsWith (.Call (.Name x p) (e :: es) [] pos) (some (.Name n py)) spos.line X.env = pure false := by rfl) (hf : X.fn n = true ∨ X.env.scope.names.lookup n = some .local := by first | exact .inl rfl | exact .inr rfl) (hg : Gl X x := by rfl) (hdb : (x == ("__debug__" : Str)) = false := by decide)
    (he : starEach (e :: es) X.env = (false, eval e X.env) :: starEach es X.env := by rfl) (hpl : (backTo pos (starEach es X.env)).any (·.1) = false := by rfl) : WS X C ρ (.Assign [.Name n py] (.Call (.Name x p) (e :: es) [] pos) spos) P := fun σ H D S L => by
  refine wpS_of (ps_set hN hi hx pe_wp hs hf) (callQ y F hr ha hp hg hdb he hpl S fun r hr1 H1 v H2 s1 S1 s2 rr => ?_)
  obtain ⟨d, rfl, hn⟩ := h r hr1
  obtain ⟨S2, t2⟩ := (S1.same s2).setIm i (ret_im S1 s2 rr)
  exact L.nx _ _ H2 hn S2 ((vis_same (s1.trans s2)).trans t2)
/-- x = f(..), a new list comes back -/
theorem ws_setQF (i : Nat) {n : Str} {spos : Pos} (y : α) (F : Cal X.prog X.w X.K X.mg X.base k x ps (spQ X.K arg pre post)) (hr : Room k X.A) (ha : EA X C ρ (e :: es) (arg y)) (hp : pre y) (h : ∀ r, post y r → ∃ ds, r = .fr ds ∧ ∀ a, P.nx (ρ.set i (.ow a ds))) (hN : X.N.Nodup) (hi : X.N[i]? = some n := by rfl) (hl : i < ρ.length := by exact Nat.le_of_ble_eq_true rfl)
    (hx : Loc X.env.scope n := by first | exact Or.inl rfl | exact Or.inr rfl) (hs : swapsWith (.Call (.Name x p) (e :: es) [] pos) (some (.Name n py)) spos.line X.env = pure false := by rfl) (hf : X.fn n = true ∨ X.env.scope.names.lookup n = some .local := by first | exact .inl rfl | exact .inr rfl) (hg : Gl X x := by rfl)
    (hdb : (x == ("__debug__" : Str)) = false := by decide) (he : starEach (e :: es) X.env = (false, eval e X.env) :: starEach es X.env := by rfl) (hpl : (backTo pos (starEach es X.env)).any (·.1) = false := by rfl) : WS X C ρ (.Assign [.Name n py] (.Call (.Name x p) (e :: es) [] pos) spos) P := fun σ H D S L => by
  refine wpS_of (ps_set hN hi hx pe_wp hs hf) (callQ y F hr ha hp hg hdb he hpl S fun r hr1 H1 v H2 s1 S1 s2 rr => ?_)
  obtain ⟨ds, rfl, hn⟩ := h r hr1
  obtain ⟨a, xs, rfl, nw, l, rs⟩ := rr
  have n1 : H1 a = none := nw
  have rs' := Reps.mono (vis_callee (l := [a]) S1.hh (fun a h => (S1.fr a h).2) (fun b zz => by
    have eb : b = a := by simpa using zz
    rw [eb]
    exact n1) s2) _ rs
  obtain ⟨S2, t2⟩ := S1.setOw i hl n1 s2 l rs'
  exact L.nx _ _ H2 (hn a) S2 ((vis_same s1).trans t2)
/-- a, b = f(..) -/
theorem ws_asgQ {L0 : List Nat} {spos : Pos} (y : α) (F : Cal X.prog X.w X.K X.mg X.base k x ps (spQ X.K arg pre post)) (hr : Room k X.A) (ha : EA X C ρ (e :: es) (arg y)) (hp : pre y) (h : ∀ r, post y r → ∃ d ρ', r = .im d ∧ GT X C ρ tg d ρ' L0 ∧ P.nx ρ')
    (hs : swapsWithSole [tg] (.Call (.Name x p) (e :: es) [] pos) spos.line X.env = pure false := by rfl) (hw : swappedStores [tg] (.Call (.Name x p) (e :: es) [] pos) X.env = pure none := by rfl) (h1 : (assignEach [tg] X.env).map (·.2) = [assign tg X.env] := by rfl) (hg : Gl X x := by rfl)
    (hdb : (x == ("__debug__" : Str)) = false := by decide) (he : starEach (e :: es) X.env = (false, eval e X.env) :: starEach es X.env := by rfl) (hpl : (backTo pos (starEach es X.env)).any (·.1) = false := by rfl) : WS X C ρ (.Assign [tg] (.Call (.Name x p) (e :: es) [] pos) spos) P := fun σ H D S L => by
  refine wpS_of (ps_asg pe_wp pg_wp hs hw h1) (callQ y F hr ha hp hg hdb he hpl S fun r hr1 H1 v H2 s1 S1 s2 rr => ?_)
  obtain ⟨d, ρ', rfl, hgt, hn⟩ := h r hr1
  exact hgt σ H2 v (S1.same s2) (ret_im S1 s2 rr) _ fun σ4 S4 s4 _ => L.nx _ _ H2 hn S4 ((vis_same (s1.trans s2)).trans s4)
/-! ### lists compared -/
theorem ec_neL {a b : Expr} {ds es' : List D} (hu : X.A.units + 64 < cLine) (ha : EL X C ρ a ds) (hb : EL X C ρ b es') (ga : (D.lst ds).Good) (gb : (D.lst es').Good) : EC X C ρ .NotEq a b (.bl (!D.eqb (.lst ds) (.lst es'))) := fun σ H S Q q pins s J => by
  refine binT pe_wp pe_wp J (R := fun v u H2 => ∃ d e, Dp X.K H2 v d ∧ Dp X.K H2 u e ∧ SeqAt.shaped d = true ∧ SeqAt.shaped e = true ∧ Q (.bl (!PyData.eqv d e)) H2) (ha σ H S _ fun l xs H1 s1 sq r1 => hb σ H1 (S.same s1) _ fun m zs H2 s2 sq2 r2 => ?_) fun v u s2 x y H2 J2 rx ry q2 => op_neD hu pins s2 σ H2 x y v u Q J2 rx ry q2
  have S2 := (S.same s1).same s2
  exact ⟨_, _, .lst (s2.seq sq) (D.dps ds ga.1 (Reps.mono S2.visIn _ (Reps.mono (vis_same s2) _ r1))), .lst sq2 (D.dps es' gb.1 (Reps.mono S2.visIn _ r2)), ga.shaped, gb.shaped, q H2 (s1.trans s2)⟩
theorem ec_eqL {a b : Expr} {ds es' : List D} (hu : X.A.units + 64 < cLine) (ha : EL X C ρ a ds) (hb : EL X C ρ b es') (ga : (D.lst ds).Good) (gb : (D.lst es').Good) : EC X C ρ .Eq a b (.bl (D.eqb (.lst ds) (.lst es'))) := fun σ H S Q q pins s J => by
  refine binT pe_wp pe_wp J (R := fun v u H2 => ∃ d e, Dp X.K H2 v d ∧ Dp X.K H2 u e ∧ SeqAt.shaped d = true ∧ SeqAt.shaped e = true ∧ Q (.bl (PyData.eqv d e)) H2) (ha σ H S _ fun l xs H1 s1 sq r1 => hb σ H1 (S.same s1) _ fun m zs H2 s2 sq2 r2 => ?_) fun v u s2 x y H2 J2 rx ry q2 => op_eqD hu pins s2 σ H2 x y v u Q J2 rx ry q2
  have S2 := (S.same s1).same s2
  exact ⟨_, _, .lst (s2.seq sq) (D.dps ds ga.1 (Reps.mono S2.visIn _ (Reps.mono (vis_same s2) _ r1))), .lst sq2 (D.dps es' gb.1 (Reps.mono S2.visIn _ r2)), ga.shaped, gb.shaped, q H2 (s1.trans s2)⟩
end
end DL

namespace DL
open PySem PySem.Spec PyProof.Rows L2
section
variable {X : Cx} {C : Ctx} {ρ ρJ : Rho} {P : Post} {st : Stmt} {sts : List Stmt} {e : Expr}
theorem WS.imp {P' : Post} (h : WS X C ρ st P) (n : ∀ ρ, P.nx ρ → P'.nx ρ) (r : ∀ x, P.rt x → P'.rt x) (b : ∀ ρ, P.bk ρ → P'.bk ρ) (c : ∀ ρ, P.ct ρ → P'.ct ρ) (e : ∀ x ρ, P.er x ρ → P'.er x ρ) : WS X C ρ st P' := fun σ H D S L =>
  h σ H D S ⟨fun ρ σ H q => L.nx ρ σ H (n _ q), fun ρ σ H q => L.bk ρ σ H (b _ q), fun ρ σ H q => L.ct ρ σ H (c _ q), fun x v H q => L.rt x v H (r _ q), by
    obtain ⟨W, h1, h2⟩ := L.tk
    exact ⟨W, h1, fun x c ρ σ H q => h2 x c ρ σ H (e _ _ q)⟩⟩
/-- the roads of a statement meet -/
theorem wp_join (h : WS X C ρ st { P with nx := fun ρ' => ρ' = ρJ }) (k : WP X C ρJ sts P) : WP X C ρ (st :: sts) P :=
  wp_cons (WS.imp h (fun ρ' e => by subst e; exact k) (fun _ q => q) (fun _ q => q) (fun _ q => q) fun _ _ q => q)
end
/-! ### dots: four ints -/
abbrev P4 := Int × Int × Int × Int
def q4 (p : P4) : D := .tup [.int p.1, .int p.2.1, .int p.2.2.1, .int p.2.2.2]
abbrev D.quads (l : List P4) : List D := l.map q4
theorem map_get {α : Type} {f : α → D} {l : List α} {i : Nat} {d : D} (h : (l.map f)[i]? = some d) : ∃ q, d = f q ∧ l[i]? = some q := by
  rw [List.getElem?_map] at h
  cases e : l[i]? with
  | none => rw [e] at h; cases h
  | some q => rw [e] at h; exact ⟨q, (Option.some.inj h).symm, rfl⟩
theorem quads_ok : ∀ l : List P4, D.pysOk (D.quads l) = true ∧ D.deps (D.quads l) ≤ 1
  | [] => ⟨rfl, Nat.zero_le _⟩
  | q :: l => by
    obtain ⟨h1, h2⟩ := quads_ok l
    refine ⟨?_, ?_⟩
    · show (D.pyOk (q4 q) && D.pysOk (D.quads l)) = true
      rw [h1]; rfl
    · show max (D.dep (q4 q)) (D.deps (D.quads l)) ≤ 1
      exact Nat.max_le.mpr ⟨Nat.le_of_ble_eq_true rfl, h2⟩
theorem good_quads (l : List P4) : (D.lst (D.quads l)).Good := ⟨(quads_ok l).1, by show D.deps (D.quads l) + 1 ≤ 64; have := (quads_ok l).2; omega⟩
theorem eqv_refl_q (q : P4) : PyData.eqv (q4 q).py (q4 q).py = true := by
  obtain ⟨a, b, c, d⟩ := q
  show PyData.eqv (.tuple [.int a, .int b, .int c, .int d]) (.tuple [.int a, .int b, .int c, .int d]) = _
  rw [PyData.eqv, PyData.eqvAll, PyData.eqvAll, PyData.eqvAll, PyData.eqvAll, PyData.eqvAll, eqb_int, eqb_int, eqb_int, eqb_int]
  simp
theorem quads_same (l : List P4) : D.eqb (.lst (D.quads l)) (.lst (D.quads l)) = true := by
  have key : ∀ l : List P4, PyData.eqvAll (D.pys (D.quads l)) (D.pys (D.quads l)) = true := by
    intro l
    induction l with
    | nil => show PyData.eqvAll [] [] = true; rw [PyData.eqvAll]
    | cons q l ih =>
      show PyData.eqvAll ((q4 q).py :: D.pys (D.quads l)) ((q4 q).py :: D.pys (D.quads l)) = true
      rw [PyData.eqvAll, eqv_refl_q, ih]
      rfl
  show PyData.eqv (.list (D.pys (D.quads l))) (.list (D.pys (D.quads l))) = true
  rw [PyData.eqv]
  exact key l
/-! ### an int or nothing -/
def oI : Option Int → D
  | none => .non
  | some i => .int i
theorem isNon_oI (c : Option Int) : (oI c).isNon = decide (c = none) := by cases c <;> rfl
section
variable {X : Cx} {C : Ctx} {ρ : Rho} {e : Expr} {pos : Pos}
/-- min of a list of ints -/
def minI : List Int → Int
  | [] => 0
  | a :: l => l.foldl min a
def maxI : List Int → Int
  | [] => 0
  | a :: l => l.foldl max a
theorem foldl_min : ∀ (l : List Int) (a : Int), (l.foldl min a = a ∨ l.foldl min a ∈ l) ∧ l.foldl min a ≤ a ∧ ∀ y ∈ l, l.foldl min a ≤ y
  | [], a => ⟨.inl rfl, Int.le_refl _, fun _ h => by cases h⟩
  | b :: l, a => by
    obtain ⟨h1, h2, h3⟩ := foldl_min l (min a b)
    refine ⟨?_, ?_, fun y hy => ?_⟩
    · rcases h1 with h | h
      · show l.foldl min (min a b) = a ∨ l.foldl min (min a b) ∈ b :: l
        rw [h]
        rcases Int.le_total a b with z | z
        · rw [Int.min_eq_left z]; exact .inl rfl
        · rw [Int.min_eq_right z]; exact .inr List.mem_cons_self
      · exact .inr (List.mem_cons_of_mem _ h)
    · show l.foldl min (min a b) ≤ a
      omega
    · show l.foldl min (min a b) ≤ y
      rcases List.mem_cons.mp hy with rfl | hy
      · omega
      · exact h3 y hy
theorem foldl_max : ∀ (l : List Int) (a : Int), (l.foldl max a = a ∨ l.foldl max a ∈ l) ∧ a ≤ l.foldl max a ∧ ∀ y ∈ l, y ≤ l.foldl max a
  | [], a => ⟨.inl rfl, Int.le_refl _, fun _ h => by cases h⟩
  | b :: l, a => by
    obtain ⟨h1, h2, h3⟩ := foldl_max l (max a b)
    refine ⟨?_, ?_, fun y hy => ?_⟩
    · rcases h1 with h | h
      · show l.foldl max (max a b) = a ∨ l.foldl max (max a b) ∈ b :: l
        rw [h]
        rcases Int.le_total a b with z | z
        · rw [Int.max_eq_right z]; exact .inr List.mem_cons_self
        · rw [Int.max_eq_left z]; exact .inl rfl
      · exact .inr (List.mem_cons_of_mem _ h)
    · show a ≤ l.foldl max (max a b)
      omega
    · show y ≤ l.foldl max (max a b)
      rcases List.mem_cons.mp hy with rfl | hy
      · omega
      · exact h3 y hy
theorem minI_mem {l : List Int} (h : l ≠ []) : minI l ∈ l := by
  cases l with
  | nil => exact absurd rfl h
  | cons a l => exact (foldl_min l a).1.elim (fun e => by show l.foldl min a ∈ a :: l; rw [e]; exact List.mem_cons_self) fun m => List.mem_cons_of_mem _ m
theorem minI_le {l : List Int} {y : Int} (h : y ∈ l) : minI l ≤ y := by
  cases l with
  | nil => cases h
  | cons a l => exact (List.mem_cons.mp h).elim (fun e => by rw [e]; exact (foldl_min l a).2.1) fun m => (foldl_min l a).2.2 y m
theorem maxI_mem {l : List Int} (h : l ≠ []) : maxI l ∈ l := by
  cases l with
  | nil => exact absurd rfl h
  | cons a l => exact (foldl_max l a).1.elim (fun e => by show l.foldl max a ∈ a :: l; rw [e]; exact List.mem_cons_self) fun m => List.mem_cons_of_mem _ m
theorem le_maxI {l : List Int} {y : Int} (h : y ∈ l) : y ≤ maxI l := by
  cases l with
  | nil => cases h
  | cons a l => exact (List.mem_cons.mp h).elim (fun e => by rw [e]; exact (foldl_max l a).2.1) fun m => (foldl_max l a).2.2 y m
theorem ee_minL {ns : List Int} {p : Pos} (hm : X.mg "min" = none) (ha : EL X C ρ e (D.ints ns)) (hne : ns ≠ []) (hc : X.calm = true := by rfl) (hg : Gl X "min" := by rfl) (he : starEach [e] X.env = (false, eval e X.env) :: starEach [] X.env := by rfl) : EE X C ρ (.Call (.Name "min" p) [e] [] pos) (.int (minI ns)) :=
  ee_callB (cr_min hc) (eal_consL ha eal_nil he) (fun σ H vs S r Q q => by
    obtain ⟨v, rfl, r1⟩ := r.one
    cases r1 with
    | lst sq rs =>
      have e1 := rs.ints
      subst e1
      exact ⟨_, ns, rfl, sq, List.length_pos_iff.mpr hne, fun m h1 h2 => by
        have e2 : m = minI ns := Int.le_antisymm (h2 _ (minI_mem hne)) (minI_le h1)
        subst e2
        exact q _ H (Same.refl H) (.at _)⟩) hm (by decide +kernel) hg (by decide) (by decide) he rfl
theorem ee_maxL {ns : List Int} {p : Pos} (hm : X.mg "max" = none) (ha : EL X C ρ e (D.ints ns)) (hne : ns ≠ []) (hc : X.calm = true := by rfl) (hg : Gl X "max" := by rfl) (he : starEach [e] X.env = (false, eval e X.env) :: starEach [] X.env := by rfl) : EE X C ρ (.Call (.Name "max" p) [e] [] pos) (.int (maxI ns)) :=
  ee_callB (cr_max hc) (eal_consL ha eal_nil he) (fun σ H vs S r Q q => by
    obtain ⟨v, rfl, r1⟩ := r.one
    cases r1 with
    | lst sq rs =>
      have e1 := rs.ints
      subst e1
      exact ⟨_, ns, rfl, sq, List.length_pos_iff.mpr hne, fun m h1 h2 => by
        have e2 : m = maxI ns := Int.le_antisymm (le_maxI h1) (h2 _ (maxI_mem hne))
        subst e2
        exact q _ H (Same.refl H) (.at _)⟩) hm (by decide +kernel) hg (by decide) (by decide) he rfl
/-- a list literal of ints, read at a place within -/
theorem ee_pickI {ns : List Int} {k : Int} {b : Expr} (ha : EL X C ρ e (D.ints ns)) (hb : EE X C ρ b (.int k)) (h0 : 0 ≤ k ∧ k < ns.length) (hp : PlainIx b := by intro _ _; rfl) : EE X C ρ (.Subscript e b pos) (.int (ns.getD k.toNat 0)) := ee_ixL ha hb (ints_atI h0.1 h0.2) hp
end
end DL

namespace DL
open PySem PySem.Spec PyProof.Rows L2
/-! ### slices of typed lists -/
def cutL {α : Type} (xs : List α) (lo hi : Option Int) : List α := (xs.drop (HT.sIx xs.length 0 lo)).take (HT.sIx xs.length xs.length hi - HT.sIx xs.length 0 lo)
theorem cut_map {α : Type} (f : α → D) (l : List α) (lo hi : Option Int) : cutD (l.map f) lo hi = (cutL l lo hi).map f := by
  unfold cutD cutL
  rw [List.length_map, List.map_take, List.map_drop]
theorem cut_mem {α : Type} {l : List α} {lo hi : Option Int} {x : α} (h : x ∈ cutL l lo hi) : x ∈ l := List.mem_of_mem_drop (List.mem_of_mem_take h)
theorem cut_len {α : Type} (l : List α) (lo hi : Option Int) : (cutL l lo hi).length ≤ l.length := by
  unfold cutL
  rw [List.length_take, List.length_drop]
  omega
theorem t3s_ok : ∀ l : List P3, D.pysOk (l.map t3) = true ∧ D.deps (l.map t3) ≤ 1
  | [] => ⟨rfl, Nat.zero_le _⟩
  | q :: l => by
    obtain ⟨h1, h2⟩ := t3s_ok l
    refine ⟨?_, ?_⟩
    · show (D.pyOk (t3 q) && D.pysOk (l.map t3)) = true
      rw [h1]; rfl
    · show max (D.dep (t3 q)) (D.deps (l.map t3)) ≤ 1
      exact Nat.max_le.mpr ⟨Nat.le_of_ble_eq_true rfl, h2⟩
theorem good_t3s (l : List P3) : (D.lst (l.map t3)).Good := ⟨(t3s_ok l).1, by show D.deps (l.map t3) + 1 ≤ 64; have := (t3s_ok l).2; omega⟩
section
variable {X : Cx} {C : Ctx} {ρ : Rho} {a : Expr} {ds : List D} {p : Pos} {k : Nat}
theorem eqb_empty (ds : List D) : D.eqb (.lst ds) (.lst []) = ds.isEmpty := by
  cases ds with
  | nil => show PyData.eqv (.list []) (.list []) = true; rw [PyData.eqv, PyData.eqvAll]
  | cons d ds => show PyData.eqv (.list (d.py :: D.pys ds)) (.list []) = false; rw [PyData.eqv, PyData.eqvAll]
/-- xs == [] -/
theorem ec_eqE (hu : X.A.units + 64 < cLine) (ha : EL X C ρ a ds) (ga : (D.lst ds).Good) (h0 : EL X C ρ (.List [] p) []) : EC X C ρ .Eq a (.List [] p) (.bl ds.isEmpty) := (ec_eqL hu ha h0 ga ⟨rfl, by decide⟩).eq (by rw [eqb_empty])
theorem ec_neE (hu : X.A.units + 64 < cLine) (ha : EL X C ρ a ds) (ga : (D.lst ds).Good) (h0 : EL X C ρ (.List [] p) []) : EC X C ρ .NotEq a (.List [] p) (.bl (!ds.isEmpty)) := (ec_neL hu ha h0 ga ⟨rfl, by decide⟩).eq (by rw [eqb_empty])
end
end DL

/-! ### texts -/
namespace DL
open PySem PySem.Spec PyProof.Rows L2
section
variable {X : Cx} {C : Ctx} {ρ : Rho} {e a b c tg : Expr} {es : List Expr} {d : D} {ds : List D} {pos p : Pos}
theorem ee_ixS {z : Str} {i : Int} {ch : Nat} (ha : EE X C ρ a (.str z)) (hb : EE X C ρ b (.int i)) (h : atI z.cps.toList i = some ch) (hz : z.length ≤ sizeLine) (hp : PlainIx b := by intro _ _; rfl) : EE X C ρ (.Subscript a b pos) (.str ⟨#[ch]⟩) := fun σ H S Q q =>
  wpE_of (pe_ix ix_str pe_wp pe_wp hp) (ha σ H S _ fun v H1 s1 r1 => hb σ H1 (S.same s1) _ fun u H2 s2 r2 => by
    cases r1
    cases r2
    exact ⟨z, i, ch, rfl, rfl, hz, h, q _ H2 (s1.trans s2) (.at _)⟩)
theorem ee_sliceS {z : Str} {lo hi : Option Expr} {l u : Option Int} {p2 : Pos} (ha : EE X C ρ a (.str z)) (hl : EO X C ρ lo l) (hu : EO X C ρ hi u) (hz : z.length ≤ sizeLine) : EE X C ρ (.Subscript a (.Slice lo hi none p2) pos) (.str (cutS z l u)) := fun σ H S Q q =>
  wpE_of (pe_slice sl_str pe_wp po_wp po_wp) (ha σ H S _ fun v H1 s1 r1 => hl σ H1 (S.same s1) _ fun H2 s2 => hu σ H2 ((S.same s1).same s2) _ fun H3 s3 => by
    cases r1
    exact ⟨z, rfl, hz, q _ H3 ((s1.trans s2).trans s3) (.at _)⟩)
theorem ee_lenS {z : Str} (hm : X.mg "len" = none) (ha : EE X C ρ e (.str z)) (hz : z.length ≤ sizeLine) (hg : Gl X "len" := by rfl) (he : starEach [e] X.env = (false, eval e X.env) :: starEach [] X.env := by rfl) : EE X C ρ (.Call (.Name "len" p) [e] [] pos) (.int z.length) :=
  ee_callB call_len_str (eal_cons ha eal_nil he) (fun σ H vs S r Q q => by
    obtain ⟨v, rfl, r1⟩ := r.one
    cases r1
    exact ⟨z, rfl, hz, q _ H (Same.refl H) (.at _)⟩) hm (by decide +kernel) hg (by decide) (by decide) he rfl
/-- str(i) -/
theorem ee_strI {i : Int} (hm : X.mg "str" = none) (ha : EE X C ρ e (.int i)) (hz : i.natAbs.log2 < 1920) (hg : Gl X "str" := by rfl) (he : starEach [e] X.env = (false, eval e X.env) :: starEach [] X.env := by rfl) : EE X C ρ (.Call (.Name "str" p) [e] [] pos) (.str (Str.ofString (toString i))) :=
  ee_callTy call_str_int (eal_cons ha eal_nil he) (fun σ H vs S r Q q => by
    obtain ⟨v, rfl, r1⟩ := r.one
    cases r1
    exact ⟨i, rfl, hz, q _ H (Same.refl H) (.at _)⟩) hm (by decide +kernel) hg (by decide) (by decide) he rfl
/-- int(text) -/
theorem ee_intS {z : Str} {n : Int} (hm : X.mg "int" = none) (ha : EE X C ρ e (.str z)) (hn : PySem.intText? z = some n) (hz : z.length ≤ 640) (hg : Gl X "int" := by rfl) (he : starEach [e] X.env = (false, eval e X.env) :: starEach [] X.env := by rfl) : EE X C ρ (.Call (.Name "int" p) [e] [] pos) (.int n) :=
  ee_callTy call_int_str (eal_cons ha eal_nil he) (fun σ H vs S r Q q => by
    obtain ⟨v, rfl, r1⟩ := r.one
    cases r1
    exact ⟨z, n, rfl, hn, hz, q _ H (Same.refl H) (.at _)⟩) hm (by decide +kernel) hg (by decide) (by decide) he rfl
/-- the signs of a text, one by one -/
def signsD (z : Str) : List D := z.cps.toList.map fun c => D.str ⟨#[c]⟩
theorem yl_str {K : PySem.W.Frag} {V0 : Hp} {z : Str} : Yl K V0 (Its z) (signsD z) where
  go := fun C o H i l hi => by show i < z.cps.size; simpa [signsD] using hi
  yl := fun C o H i x H' l hi y => by
    obtain ⟨rfl, c, h1, rfl⟩ := y
    refine ⟨.str ⟨#[c]⟩, ?_, Same.refl _, .at _⟩
    unfold signsD
    rw [List.getElem?_map, Array.getElem?_toList, h1]
    rfl
  stop := fun C o H l => by show z.cps.size ≤ (signsD z).length; simp [signsD]
theorem ei_str {z : Str} (h : EE X C ρ e (.str z)) : EI X C ρ tg e (signsD z) := fun σ H S R q => wpI_of (pi_str pe_wp) (h σ H S _ fun v H1 s1 r1 => by
  cases r1
  exact ⟨z, rfl, q _ H1 s1 yl_str⟩)
/-- methods of a text: of one text -/
theorem ee_m1 {id : String} {name : Str} {apos : Pos} {r : V → List V → Hp → VK → Prop} {x y : Str} (slot : Slot "str" name id) (ty : typeOf (.builtin id) = pure (.type "method_descriptor")) (rule : MtR X id r) (ha : EE X C ρ a (.str x)) (hb : EE X C ρ b (.str y))
    (hr : ∀ σ H, SRel X.K C H σ ρ → ∀ Q : VK, (∀ v H', Same H H' → Rep X.K (vis C (ows ρ) H') v d → Q v H') → r (.str x) [.str y] H Q)
    (hs : starEach [b] X.env = [(false, eval b X.env)] := by rfl) (hbase : attributeBase a name X.env (eval a X.env) = eval a X.env := by rfl) (hline : (apos.endLine == pos.line) = true := by rfl) : EE X C ρ (.Call (.Attribute a name apos) [b] [] pos) d := fun σ H S Q q =>
  wpE_of (pe_m1 slot ty rule pe_wp pe_wp hs hbase hline) (ha σ H S _ fun v H1 s1 r1 => by
    cases r1
    exact ⟨⟨x, rfl⟩, hb σ H1 (S.same s1) _ fun u H2 s2 r2 => by
      cases r2
      exact hr σ H2 ((S.same s1).same s2) Q fun v H3 s3 r3 => q v H3 ((s1.trans s2).trans s3) r3⟩)
theorem ee_startswith {x y : Str} {apos : Pos} (ha : EE X C ρ a (.str x)) (hb : EE X C ρ b (.str y)) (hs : starEach [b] X.env = [(false, eval b X.env)] := by rfl) (hbase : attributeBase a "startswith" X.env (eval a X.env) = eval a X.env := by rfl) (hline : (apos.endLine == pos.line) = true := by rfl) : EE X C ρ (.Call (.Attribute a "startswith" apos) [b] [] pos) (.bl (Txt.startswith x y)) :=
  ee_m1 PySem.F.slot_str_startswith PySem.F.type_str_startswith mt_startswith ha hb (fun σ H S Q q => ⟨x, y, rfl, rfl, q _ H (Same.refl H) (.at _)⟩) hs hbase hline
theorem ee_find {x y : Str} {apos : Pos} (ha : EE X C ρ a (.str x)) (hb : EE X C ρ b (.str y)) (hs : starEach [b] X.env = [(false, eval b X.env)] := by rfl) (hbase : attributeBase a "find" X.env (eval a X.env) = eval a X.env := by rfl) (hline : (apos.endLine == pos.line) = true := by rfl) : EE X C ρ (.Call (.Attribute a "find" apos) [b] [] pos) (.int (Txt.find x y)) :=
  ee_m1 PySem.F.slot_str_find PySem.F.type_str_find mt_find ha hb (fun σ H S Q q => ⟨x, y, rfl, rfl, q _ H (Same.refl H) (.at _)⟩) hs hbase hline
theorem ee_index {x y : Str} {i : Nat} {rest : List Nat} {apos : Pos} (ha : EE X C ρ a (.str x)) (hb : EE X C ρ b (.str y)) (ho : Builtin.Str.occurrences x y 0 x.length 1 = i :: rest) (hs : starEach [b] X.env = [(false, eval b X.env)] := by rfl) (hbase : attributeBase a "index" X.env (eval a X.env) = eval a X.env := by rfl) (hline : (apos.endLine == pos.line) = true := by rfl) : EE X C ρ (.Call (.Attribute a "index" apos) [b] [] pos) (.int (i : Nat)) :=
  ee_m1 PySem.F.slot_str_index PySem.F.type_str_index mt_sindex ha hb (fun σ H S Q q => ⟨x, y, i, rest, rfl, rfl, ho, q _ H (Same.refl H) (.at _)⟩) hs hbase hline
theorem ee_partition {x y : Str} {apos : Pos} (ha : EE X C ρ a (.str x)) (hb : EE X C ρ b (.str y)) (hy : (y.length == 0) = false) (hz : x.length ≤ sizeLine) (hs : starEach [b] X.env = [(false, eval b X.env)] := by rfl) (hbase : attributeBase a "partition" X.env (eval a X.env) = eval a X.env := by rfl) (hline : (apos.endLine == pos.line) = true := by rfl) :
    EE X C ρ (.Call (.Attribute a "partition" apos) [b] [] pos) (.tup [.str (Txt.partition x y).1, .str (Txt.partition x y).2.1, .str (Txt.partition x y).2.2]) :=
  ee_m1 PySem.F.slot_str_partition PySem.F.type_str_partition mt_partition ha hb (fun σ H S Q q => ⟨x, y, rfl, rfl, hy, hz, fun z nz => by
    have S1 := S
    refine q _ _ (same_upd nz) ?_
    rw [S1.visNew nz]
    exact .tup upd_same (.cons (.at _) (.cons (.at _) (.cons (.at _) .nil)))⟩) hs hbase hline
/-- a sign in a text -/
theorem ec_inS {ch : Nat} {z : Str} (ha : EE X C ρ a (.str ⟨#[ch]⟩)) (hb : EE X C ρ b (.str z)) : EC X C ρ .In a b (.bl (decide (ch ∈ z.cps.toList))) ∧ EC X C ρ .NotIn a b (.bl (!decide (ch ∈ z.cps.toList))) :=
  ⟨ec_op op_in_sign ha hb fun H Q q => ⟨ch, z, rfl, rfl, q⟩, ec_op op_notIn_sign ha hb fun H Q q => ⟨ch, z, rfl, rfl, q⟩⟩
/-- a text in a tuple of texts -/
theorem inV_strs (x : Str) : ∀ ns : List Str, inV (.str x) (ns.map V.str) = decide (x ∈ ns)
  | [] => rfl
  | n :: ns => by
    show (eqV (.str n) (.str x) || inV (.str x) (ns.map V.str)) = _
    rw [inV_strs x ns, show eqV (.str n) (.str x) = (n == x) from rfl]
    by_cases e : x = n
    · subst e; simp
    · have e' : ¬ n = x := fun z => e z.symm
      simp [e, e']
theorem flat_strs' : ∀ ns : List Str, (ns.map V.str).all flatV = true
  | [] => rfl
  | n :: ns => by rw [List.map_cons, List.all_cons, flat_strs' ns]; rfl
theorem reps_strs {K : PySem.W.Frag} {H : Hp} {ns : List Str} {vs : List V} (h : Reps K H vs (ns.map D.str)) : vs = ns.map V.str := by
  have e : ns.map D.str = (ns.map V.str).map D.at := by rw [List.map_map]; rfl
  rw [e] at h
  exact h.ats
theorem ec_inTS {x : Str} {ns : List Str} (ha : EE X C ρ a (.str x)) (hb : EE X C ρ b (.tup (ns.map D.str))) : EC X C ρ .In a b (.bl (decide (x ∈ ns))) ∧ EC X C ρ .NotIn a b (.bl (!decide (x ∈ ns))) :=
  ⟨ec_opD op_in_seq ha hb fun σ H v u S r1 r2 Q q => by
    cases r1
    cases r2 with
    | tup sq rs =>
      have e1 := reps_strs rs
      subst e1
      refine ⟨_, _, rfl, .inr (Same.seqT S.visIn (tq sq)), rfl, flat_strs' ns, ?_⟩
      rw [if_neg Bool.false_ne_true, inV_strs]
      exact q H (Same.refl H),
  ec_opD op_notIn_seq ha hb fun σ H v u S r1 r2 Q q => by
    cases r1
    cases r2 with
    | tup sq rs =>
      have e1 := reps_strs rs
      subst e1
      refine ⟨_, _, rfl, .inr (Same.seqT S.visIn (tq sq)), rfl, flat_strs' ns, ?_⟩
      rw [if_pos rfl, inV_strs]
      exact q H (Same.refl H)⟩
end
end DL

namespace DL
open PySem PySem.Spec PyProof.Rows L2
/-! ### argument lists without stars -/
def plainE : Expr → Bool
  | .Starred _ _ => false
  | _ => true
theorem se_of {e : Expr} {es : List Expr} {env : Env} (h : plainE e = true) : starEach (e :: es) env = (false, eval e env) :: starEach es env := by
  cases e <;> first | rfl | cases h
theorem room65 {k : Nat} {A : Around} (r : Room k A) : A.units + 65 < cLine := by have := r.un; omega
/-! ### runs over data -/
/-- how a run ends: a value, an exception of that name, or nothing is told -/
inductive R (α : Type) where
  | ok (a : α)
  | er (n : Str)
  | bad
def R.bind {α β : Type} (m : R α) (f : α → R β) : R β := match m with
  | .ok a => f a
  | .er n => .er n
  | .bad => .bad
/-- a value: data that is seen, a new list, a list of one's own (to be read) -/
inductive RV where
  | im (d : D)
  | fr (ds : List D)
  | ro (ds : List D)
inductive Sl where
  | no
  | im (d : D)
  | ow (ds : List D)
  | od (kvs : List (List Key × D))
  | ot (d : D)
  | og (k : GK) (ds : List D)
abbrev Fr := List Sl
def En.sl : En → Sl
  | .no => .no
  | .im d => .im d
  | .ow _ ds => .ow ds
  | .od _ k => .od k
  | .ot _ d => .ot d
  | .og _ k ds => .og k ds
def frOf (ρ : Rho) : Fr := ρ.map En.sl
def nthS : Fr → Nat → Sl
  | [], _ => .no
  | s :: _, 0 => s
  | _ :: E, n + 1 => nthS E n
def setS : Fr → Nat → Sl → Fr
  | [], _, _ => []
  | _ :: E, 0, x => x :: E
  | s :: E, n + 1, x => s :: setS E n x
theorem setS_eq : ∀ (E : Fr) (n : Nat) (x : Sl), setS E n x = E.set n x
  | [], _, _ => rfl
  | _ :: _, 0, _ => rfl
  | _ :: E, n + 1, x => by rw [setS, List.set_cons_succ, setS_eq E n x]
theorem nthS_eq : ∀ (E : Fr) (n : Nat), nthS E n = E[n]?.getD .no
  | [], _ => by simp [nthS]
  | _ :: _, 0 => by simp [nthS]
  | _ :: E, n + 1 => by rw [nthS, nthS_eq E n]; simp
theorem frOf_set (ρ : Rho) (i : Nat) (e : En) : frOf (ρ.set i e) = setS (frOf ρ) i e.sl := by rw [setS_eq]; unfold frOf; rw [List.map_set]
theorem frOf_nth {ρ : Rho} {i : Nat} : nthS (frOf ρ) i = (ρ[i]?.map En.sl).getD .no := by rw [nthS_eq]; unfold frOf; rw [List.getElem?_map]
theorem nth_im {ρ : Rho} {i : Nat} {d : D} (h : nthS (frOf ρ) i = .im d) : ρ[i]? = some (.im d) := by
  rw [frOf_nth] at h
  cases e : ρ[i]? with
  | none => rw [e] at h; cases h
  | some x => rw [e] at h; cases x <;> first | (cases h; rfl) | cases h
theorem nth_ow {ρ : Rho} {i : Nat} {ds : List D} (h : nthS (frOf ρ) i = .ow ds) : ∃ a, ρ[i]? = some (.ow a ds) := by
  rw [frOf_nth] at h
  cases e : ρ[i]? with
  | none => rw [e] at h; cases h
  | some x => rw [e] at h; cases x <;> first | (cases h; exact ⟨_, rfl⟩) | cases h
abbrev MX := Fr → R RV
def OKV (X : Cx) (C : Ctx) (ρ : Rho) (e : Expr) : R RV → Prop
  | .ok (.im d) => EE X C ρ e d
  | .ok (.fr ds) => EF X C ρ e ds
  | .ok (.ro ds) => EL X C ρ e ds
  | .er n => EX X C ρ e n
  | .bad => True
/-- m tells what e comes to -/
structure EM (X : Cx) (e : Expr) (m : MX) : Prop where
  run : ∀ C ρ, OKV X C ρ e (m (frOf ρ))
instance {X : Cx} {e : Expr} {m : MX} : CoeFun (EM X e m) fun _ => ∀ C ρ, OKV X C ρ e (m (frOf ρ)) := ⟨fun h => h.run⟩
def toD : R RV → R D
  | .ok (.im d) => .ok d
  | .ok (.fr ds) => .ok (.lst ds)
  | _ => .bad
def toL : R RV → R (List D)
  | .ok (.im (.lst ds)) => .ok ds
  | .ok (.fr ds) => .ok ds
  | .ok (.ro ds) => .ok ds
  | _ => .bad
/-- as an argument: one's own lists too -/
def toA : R RV → R D
  | .ok (.im d) => .ok d
  | .ok (.fr ds) => .ok (.lst ds)
  | .ok (.ro ds) => .ok (.lst ds)
  | _ => .bad
section
variable {X : Cx} {C : Ctx} {ρ : Rho} {e a b c : Expr} {es : List Expr} {m ma mb mc : MX} {d : D} {ds : List D} {pos p : Pos}
theorem okv_ee {r : R RV} (h : OKV X C ρ e r) (q : toD r = .ok d) : EE X C ρ e d := by
  rcases r with (d' | ds | ds) | n | _ <;> cases q
  · exact h
  · exact EF.ee h
theorem okv_el {r : R RV} (h : OKV X C ρ e r) (q : toL r = .ok ds) : EL X C ρ e ds := by
  rcases r with ((v | _ | _ | _) | ds | ds) | n | _ <;> cases q
  · exact EE.el h
  · exact EF.el h
  · exact h
theorem EM.ee (h : EM X e m) (q : toD (m (frOf ρ)) = .ok d) : EE X C ρ e d := okv_ee (h C ρ) q
theorem EM.el (h : EM X e m) (q : toL (m (frOf ρ)) = .ok ds) : EL X C ρ e ds := okv_el (h C ρ) q

/-! ### names, constants -/
def eVar (i : Nat) : MX := fun E => match nthS E i with
  | .im d => .ok (.im d)
  | .ow ds => .ok (.ro ds)
  | _ => .bad
theorem em_var (i : Nat) {x : Str} (hN : X.N[i]? = some x := by rfl) (hv : Vis X.env.scope x := by first | exact Or.inl rfl | exact Or.inr (Or.inl rfl) | exact Or.inr (Or.inr rfl))
    (hd : (x == ("__debug__" : Str)) = false := by decide) (hcd : (x == ("__classdict__" : Str)) = false := by decide) : EM X (.Name x pos) (eVar i) := .mk fun C ρ => by
  unfold eVar
  split
  · rename_i d h
    exact ee_var i hN (nth_im h) hv hd hcd
  · rename_i ds h
    obtain ⟨a, h⟩ := nth_ow h
    exact el_var i hN h hv hd hcd
  · trivial
def eC (d : D) : MX := fun _ => .ok (.im d)
theorem em_c (h : ∀ C ρ, EE X C ρ e d) : EM X e (eC d) := .mk fun C ρ => h C ρ
theorem em_int {i j} : EM X (.Constant (.int i) j pos) (eC (.int i)) := em_c fun _ _ => ee_int
theorem em_bl {i j} : EM X (.Constant (.bool i) j pos) (eC (.bl i)) := em_c fun _ _ => ee_bl
theorem em_non {j} : EM X (.Constant .none j pos) (eC .non) := em_c fun _ _ => ee_non
theorem em_str {i j} : EM X (.Constant (.str i) j pos) (eC (.str i)) := em_c fun _ _ => ee_str
theorem em_gint {x : Str} {i : Int} (hm : ∃ t, X.mg x = some (.int i t)) (hg : Gl X x := by rfl) (hd : (x == ("__debug__" : Str)) = false := by decide) : EM X (.Name x pos) (eC (.int i)) := em_c fun _ _ => ee_gint hm hg hd

/-! ### operations -/
def e1 (f : D → R RV) (m : MX) : MX := fun E => match toD (m E) with
  | .ok x => f x
  | _ => .bad
def e2 (f : D → D → R RV) (ma mb : MX) : MX := fun E => match toD (ma E) with
  | .ok x => (match toD (mb E) with
    | .ok y => f x y
    | _ => .bad)
  | _ => .bad
theorem em_e1 {f : D → R RV} (ha : EM X a ma) (h : ∀ C ρ x, EE X C ρ a x → OKV X C ρ e (f x)) : EM X e (e1 f ma) := .mk fun C ρ => by
  unfold e1
  split
  · rename_i x q1
    exact h C ρ x (ha.ee q1)
  · trivial
theorem em_e2 {f : D → D → R RV} (ha : EM X a ma) (hb : EM X b mb) (h : ∀ C ρ x y, EE X C ρ a x → EE X C ρ b y → OKV X C ρ e (f x y)) : EM X e (e2 f ma mb) := .mk fun C ρ => by
  unfold e2
  split
  · rename_i x q1
    split
    · rename_i y q2
      exact h C ρ x y (ha.ee q1) (hb.ee q2)
    · trivial
  · trivial
/-- an operation on two ints -/
def int2 (f : Int → Int → R RV) : D → D → R RV
  | .at (.int i), .at (.int j) => f i j
  | _, _ => .bad
theorem em_int2 {f : Int → Int → R RV} (ha : EM X a ma) (hb : EM X b mb) (h : ∀ C ρ i j, EE X C ρ a (.int i) → EE X C ρ b (.int j) → OKV X C ρ e (f i j)) : EM X e (e2 (int2 f) ma mb) := em_e2 ha hb fun C ρ x y h1 h2 => by
  unfold int2
  split
  · exact h C ρ _ _ h1 h2
  · trivial
open Classical in
noncomputable def mulZ (i j : Int) : R RV := if IntMulOk i j then .ok (.im (.int (i * j))) else .bad
open Classical in
noncomputable def fdivZ (i j : Int) : R RV := if j ≠ 0 ∧ Sz 8999 j then .ok (.im (.int (i.fdiv j))) else .bad
def modZ (i j : Int) : R RV := if j ≠ 0 then .ok (.im (.int (i.fmod j))) else .bad
open Classical in
noncomputable def powZ (i j : Int) : R RV := if CPow i j then .ok (.im (.int (i ^ j.toNat))) else .bad
def subZ (i j : Int) : R RV := .ok (.im (.int (i - j)))
theorem mulZ_ok {i j : Int} (h : IntMulOk i j) : mulZ i j = .ok (.im (.int (i * j))) := if_pos h
theorem fdivZ_ok {i j : Int} (h : j ≠ 0) (s : Sz 8999 j) : fdivZ i j = .ok (.im (.int (i.fdiv j))) := if_pos ⟨h, s⟩
theorem fdivZ_pos {i j : Int} (h : 0 < j) (s : Sz 8999 j) : fdivZ i j = .ok (.im (.int (i / j))) := by rw [fdivZ_ok (Int.ne_of_gt h) s, Int.fdiv_eq_ediv_of_nonneg i (Int.le_of_lt h)]
theorem modZ_pos {i j : Int} (h : 0 < j) : modZ i j = .ok (.im (.int (i % j))) := by unfold modZ; rw [if_pos (Int.ne_of_gt h), Int.fmod_eq_emod_of_nonneg i (Int.le_of_lt h)]
theorem powZ_ok {i j : Int} (h : CPow i j) : powZ i j = .ok (.im (.int (i ^ j.toNat))) := if_pos h
noncomputable abbrev eMul := e2 (int2 mulZ)
noncomputable abbrev eDiv := e2 (int2 fdivZ)
abbrev eMod := e2 (int2 modZ)
noncomputable abbrev ePow := e2 (int2 powZ)
abbrev eSub := e2 (int2 subZ)
theorem em_mul (ha : EM X a ma) (hb : EM X b mb) : EM X (.BinOp a .Mult b pos) (eMul ma mb) := em_int2 ha hb fun C ρ i j h1 h2 => by
  unfold mulZ
  split
  · exact ee_mul h1 h2 (by assumption)
  · trivial
theorem em_div (ha : EM X a ma) (hb : EM X b mb) : EM X (.BinOp a .FloorDiv b pos) (eDiv ma mb) := em_int2 ha hb fun C ρ i j h1 h2 => by
  unfold fdivZ
  split
  · rename_i h
    exact ee_fdivN h1 h2 h.1 h.2
  · trivial
theorem em_mod (ha : EM X a ma) (hb : EM X b mb) : EM X (.BinOp a .Mod b pos) (eMod ma mb) := em_int2 ha hb fun C ρ i j h1 h2 => by
  unfold modZ
  split
  · exact ee_modN h1 h2 (by assumption)
  · trivial
theorem em_pow (ha : EM X a ma) (hb : EM X b mb) : EM X (.BinOp a .Pow b pos) (ePow ma mb) := em_int2 ha hb fun C ρ i j h1 h2 => by
  unfold powZ
  split
  · exact ee_pow h1 h2 (by assumption)
  · trivial
theorem em_sub (ha : EM X a ma) (hb : EM X b mb) : EM X (.BinOp a .Sub b pos) (eSub ma mb) := em_int2 ha hb fun C ρ i j h1 h2 => ee_sub h1 h2
def int1 (f : Int → R RV) : D → R RV
  | .at (.int i) => f i
  | _ => .bad
def negZ (i : Int) : R RV := .ok (.im (.int (-i)))
def absZ (i : Int) : R RV := .ok (.im (.int i.natAbs))
abbrev eNeg := e1 (int1 negZ)
abbrev eAbs := e1 (int1 absZ)
theorem em_neg (ha : EM X a ma) : EM X (.UnaryOp .USub a pos) (eNeg ma) := em_e1 ha fun C ρ x h => by
  unfold int1
  split
  · exact ee_neg h
  · trivial
theorem em_abs {p : Pos} (hm : X.mg "abs" = none) (ha : EM X e m) (hg : Gl X "abs" := by rfl) (he : starEach [e] X.env = (false, eval e X.env) :: starEach [] X.env := by exact se_of rfl) : EM X (.Call (.Name "abs" p) [e] [] pos) (eAbs m) := em_e1 ha fun C ρ x h => by
  unfold int1
  split
  · exact ee_abs hm h hg he
  · trivial
theorem ee_addT {xs ys : List D} (ha : EE X C ρ a (.tup xs)) (hb : EE X C ρ b (.tup ys)) (hl : xs.length + ys.length ≤ sizeLine) : EE X C ρ (.BinOp a .Add b pos) (.tup (xs ++ ys)) :=
  ee_opD op_catA ha hb fun σ H v u S r1 r2 Q q => by
    cases r1 with
    | tup s1 t1 =>
      cases r2 with
      | tup s2 t2 =>
        have l1 := t1.length
        have l2 := t2.length
        refine ⟨_, _, _, _, rfl, rfl, Same.seqT S.visIn (tq s1), Same.seqT S.visIn (tq s2), by rw [l1, l2]; exact hl, fun e => ?_, fun _ e => ?_, fun _ _ p np => ?_⟩
        · have e1 : xs = [] := List.eq_nil_of_length_eq_zero (by rw [← l1, e]; rfl)
          exact q _ H (Same.refl H) (by rw [e1]; exact .tup s2 t2)
        · have e1 : ys = [] := List.eq_nil_of_length_eq_zero (by rw [← l2, e]; rfl)
          exact q _ H (Same.refl H) (by rw [e1, List.append_nil]; exact .tup s1 t1)
        · refine q _ _ (same_upd np) ?_
          rw [S.visNew np]
          exact .tup upd_same (Reps.mono (same_upd (S.visIn.free np)) _ (t1.append t2))
theorem ee_addS {x y : Str} (ha : EE X C ρ a (.str x)) (hb : EE X C ρ b (.str y)) (hl : x.length + y.length ≤ sizeLine) : EE X C ρ (.BinOp a .Add b pos) (.str (x ++ y)) := ee_op op_add_str ha hb fun _ _ q => ⟨x, y, rfl, rfl, hl, q⟩
/-- + : ints, tuples, texts, or lists -/
def addD : D → D → R RV
  | .at (.int i), .at (.int j) => .ok (.im (.int (i + j)))
  | .tup xs, .tup ys => if xs.length + ys.length ≤ sizeLine then .ok (.im (.tup (xs ++ ys))) else .bad
  | .at (.str x), .at (.str y) => if x.length + y.length ≤ sizeLine then .ok (.im (.str (x ++ y))) else .bad
  | _, _ => .bad
def eAdd (ma mb : MX) : MX := fun E => match toL (ma E) with
  | .ok xs => (match toL (mb E) with
    | .ok ys => if xs.length + ys.length ≤ sizeLine then .ok (.fr (xs ++ ys)) else .bad
    | _ => .bad)
  | _ => e2 addD ma mb E
theorem em_add (ha : EM X a ma) (hb : EM X b mb) : EM X (.BinOp a .Add b pos) (eAdd ma mb) := .mk fun C ρ => by
  unfold eAdd
  split
  · rename_i xs q1
    split
    · rename_i ys q2
      split
      · exact ef_cat (ha.el q1) (hb.el q2) (by assumption)
      · trivial
    · trivial
  · refine em_e2 ha hb (fun C ρ x y h1 h2 => ?_) C ρ
    unfold addD
    split
    · exact ee_add h1 h2
    · split
      · exact ee_addT h1 h2 (by assumption)
      · trivial
    · split
      · exact ee_addS h1 h2 (by assumption)
      · trivial
    · trivial
/-- max, min of two ints -/
def maxZ (i j : Int) : R RV := .ok (.im (.int (max i j)))
def minZ (i j : Int) : R RV := .ok (.im (.int (min i j)))
abbrev eMax2 := e2 (int2 maxZ)
abbrev eMin2 := e2 (int2 minZ)
theorem em_max2 {p : Pos} (hm : X.mg "max" = none) (ha : EM X a ma) (hb : EM X b mb) (hc : X.calm = true := by rfl) (hg : Gl X "max" := by rfl) (he : starEach [a, b] X.env = (false, eval a X.env) :: starEach [b] X.env := by exact se_of rfl) (he2 : starEach [b] X.env = (false, eval b X.env) :: starEach [] X.env := by exact se_of rfl)
    (hpl : (backTo pos (starEach [b] X.env)).any (·.1) = false := by rfl) : EM X (.Call (.Name "max" p) [a, b] [] pos) (eMax2 ma mb) := em_int2 ha hb fun C ρ i j h1 h2 => ee_max2 hm h1 h2 hc hg he he2 hpl
theorem em_min2 {p : Pos} (hm : X.mg "min" = none) (ha : EM X a ma) (hb : EM X b mb) (hc : X.calm = true := by rfl) (hg : Gl X "min" := by rfl) (he : starEach [a, b] X.env = (false, eval a X.env) :: starEach [b] X.env := by exact se_of rfl) (he2 : starEach [b] X.env = (false, eval b X.env) :: starEach [] X.env := by exact se_of rfl)
    (hpl : (backTo pos (starEach [b] X.env)).any (·.1) = false := by rfl) : EM X (.Call (.Name "min" p) [a, b] [] pos) (eMin2 ma mb) := em_int2 ha hb fun C ρ i j h1 h2 => ee_min2 hm h1 h2 hc hg he he2 hpl

/-! ### comparisons -/
structure CM (X : Cx) (op : CmpOp) (a b : Expr) (c : Fr → R Bool) : Prop where
  run : ∀ C ρ k, c (frOf ρ) = .ok k → EC X C ρ op a b (.bl k)
instance {X : Cx} {op : CmpOp} {a b : Expr} {c : Fr → R Bool} : CoeFun (CM X op a b c) fun _ => ∀ C ρ k, c (frOf ρ) = .ok k → EC X C ρ op a b (.bl k) := ⟨fun h => h.run⟩
def c2 (f : D → D → R Bool) (ma mb : MX) : Fr → R Bool := fun E => match toD (ma E) with
  | .ok x => (match toD (mb E) with
    | .ok y => f x y
    | _ => .bad)
  | _ => .bad
theorem cm_c2 {op : CmpOp} {f : D → D → R Bool} (ha : EM X a ma) (hb : EM X b mb) (h : ∀ C ρ x y k, EE X C ρ a x → EE X C ρ b y → f x y = .ok k → EC X C ρ op a b (.bl k)) : CM X op a b (c2 f ma mb) := .mk fun C ρ k q => by
  unfold c2 at q
  split at q
  · rename_i x q1
    split at q
    · rename_i y q2
      exact h C ρ x y k (ha.ee q1) (hb.ee q2) q
    · cases q
  · cases q
def intsOf : List D → Option (List Int)
  | [] => some []
  | .at (.int i) :: ds => (intsOf ds).map (i :: ·)
  | _ => none
theorem intsOf_eq : ∀ {ds : List D} {ns : List Int}, intsOf ds = some ns → ds = D.ints ns
  | [], ns, h => by cases h; rfl
  | .at (.int i) :: ds, ns, h => by
    rw [intsOf] at h
    cases e : intsOf ds with
    | none => rw [e] at h; cases h
    | some ms => rw [e] at h; cases h; rw [intsOf_eq e]; rfl
  | .at .non :: _, _, h => by cases h
  | .at (.bl _) :: _, _, h => by cases h
  | .at (.str _) :: _, _, h => by cases h
  | .at (.byt _) :: _, _, h => by cases h
  | .at (.flt _) :: _, _, h => by cases h
  | .at (.ref _) :: _, _, h => by cases h
  | .at (.ty _) :: _, _, h => by cases h
  | .tup _ :: _, _, h => by cases h
  | .lst _ :: _, _, h => by cases h
  | .exc _ :: _, _, h => by cases h
theorem intsOf_ints : ∀ ns : List Int, intsOf (D.ints ns) = some ns
  | [] => rfl
  | n :: ns => by
    show intsOf (.at (.int n) :: D.ints ns) = _
    rw [intsOf, intsOf_ints ns]
    rfl
def ltD : D → D → R Bool
  | .at (.int i), .at (.int j) => .ok (decide (i < j))
  | .tup xs, .tup ys => (match intsOf xs, intsOf ys with
    | some ns, some ms => .ok (HT.lexLt ns ms)
    | _, _ => .bad)
  | _, _ => .bad
def lexB (f : List Int → List Int → Bool) : Option (List Int) → Option (List Int) → R Bool
  | some ns, some ms => .ok (f ns ms)
  | _, _ => .bad
theorem lexB_ok {f : List Int → List Int → Bool} {x y : Option (List Int)} {k : Bool} (h : lexB f x y = .ok k) : ∃ ns ms, x = some ns ∧ y = some ms ∧ k = f ns ms := by
  unfold lexB at h
  split at h
  · cases h; exact ⟨_, _, rfl, rfl, rfl⟩
  · cases h
def leD : D → D → R Bool
  | .at (.int i), .at (.int j) => .ok (decide (i ≤ j))
  | .tup xs, .tup ys => lexB (fun ns ms => !HT.lexLt ms ns) (intsOf xs) (intsOf ys)
  | _, _ => .bad
def gtD : D → D → R Bool
  | .at (.int i), .at (.int j) => .ok (decide (j < i))
  | .tup xs, .tup ys => lexB (fun ns ms => HT.lexLt ms ns) (intsOf xs) (intsOf ys)
  | _, _ => .bad
def geD : D → D → R Bool
  | .at (.int i), .at (.int j) => .ok (decide (j ≤ i))
  | .tup xs, .tup ys => lexB (fun ns ms => !HT.lexLt ns ms) (intsOf xs) (intsOf ys)
  | _, _ => .bad
theorem lexLt_dec : ∀ xs ys : List Int, HT.lexLt xs ys = decide (xs < ys)
  | [], [] => by simp [HT.lexLt]
  | [], _ :: _ => by simp [HT.lexLt]
  | _ :: _, [] => by simp [HT.lexLt]
  | x :: xs, y :: ys => by
    rw [HT.lexLt]
    by_cases h : x = y
    · rw [if_pos h, lexLt_dec xs ys]
      simp [h, List.cons_lt_cons_iff]
    · rw [if_neg h]
      simp [h, List.cons_lt_cons_iff]
theorem dataLt_lex (ns ms : List Int) : PySem.W.dataLt (.tuple (ns.map .int)) (.tuple (ms.map .int)) = HT.lexLt ns ms := by
  rw [PySem.W.dataLt_tuple, lexLt_dec]
  exact PySem.W.dataLt_ints ns ms
theorem vals_ints' {h : Heap} : ∀ {b : List Int} {us : List Value}, Vals (b.map V.int) us → ReadsAll h us (b.map .int) []
  | [], _, .nil => .nil
  | i :: b, _, .cons r t => by
    obtain ⟨tk, rfl⟩ := r
    exact ReadsAll.cons (as := []) (.int i tk) (vals_ints' t)
def rCmT (K : PySem.W.Frag) (f : List Int → List Int → Bool) : R2 := fun x y H Q => ∃ a b ns ms, x = .ref a ∧ y = .ref b ∧ SqT K H a (ns.map V.int) ∧ SqT K H b (ms.map V.int) ∧ Q (.bl (f ns ms)) H
theorem reads_tupI {h : Heap} {a : Addr} {ns : List Int} {its : List Value} (r : Vals (ns.map V.int) its) (p : IsTup h a its.toArray) : Reads h (.ref a) (.tuple (ns.map .int)) [] := by
  obtain ⟨o, g3, g4, n, g5⟩ := p
  exact .tuple g3 g4 g5 (vals_ints' r)
theorem depth_tupI (ns : List Int) : PyData.depth (.tuple (ns.map .int)) ≤ 3 := by
  simp only [PyData.depth, PySem.W.depth_ints]
  omega
theorem alike_tupI (ns ms : List Int) : PySem.W.alike (.tuple (ns.map .int)) (.tuple (ms.map .int)) = true := by
  simp only [PySem.W.alike, PySem.W.alike_ints]
theorem op_geT {X : Cx} (hu : X.A.units + 64 < cLine) : OpR X (compareOp .GtE) (rCmT X.K fun ns ms => !HT.lexLt ns ms) := by
  intro pins s σ H x y v u Q I rx ry h
  obtain ⟨a, b, ns, ms, rfl, rfl, ha, hb, q⟩ := h
  cases rx
  cases ry
  obtain ⟨its, r1, p1, _⟩ := I.tuple ha
  obtain ⟨its2, r2, p2, _⟩ := I.tuple hb
  refine PySem.W.ge_data (reads_tupI r1 p1) (reads_tupI r2 p2) (alike_tupI ns ms) (fun z => nomatch z) (by have := depth_tupI ns; have := depth_tupI ms; omega) ?_
  rw [dataLt_lex]
  exact ⟨.bl (!HT.lexLt ns ms), H, I, rfl, q⟩
theorem op_leT {X : Cx} (hu : X.A.units + 64 < cLine) : OpR X (compareOp .LtE) (rCmT X.K fun ns ms => !HT.lexLt ms ns) := by
  intro pins s σ H x y v u Q I rx ry h
  obtain ⟨a, b, ns, ms, rfl, rfl, ha, hb, q⟩ := h
  cases rx
  cases ry
  obtain ⟨its, r1, p1, _⟩ := I.tuple ha
  obtain ⟨its2, r2, p2, _⟩ := I.tuple hb
  refine PySem.W.le_data (reads_tupI r1 p1) (reads_tupI r2 p2) (alike_tupI ns ms) (fun z => nomatch z) (by have := depth_tupI ns; have := depth_tupI ms; omega) ?_
  rw [dataLt_lex]
  exact ⟨.bl (!HT.lexLt ms ns), H, I, rfl, q⟩
theorem op_gtT {X : Cx} (hu : X.A.units + 64 < cLine) : OpR X (compareOp .Gt) (rCmT X.K fun ns ms => HT.lexLt ms ns) := by
  intro pins s σ H x y v u Q I rx ry h
  obtain ⟨a, b, ns, ms, rfl, rfl, ha, hb, q⟩ := h
  cases rx
  cases ry
  obtain ⟨its, r1, p1, _⟩ := I.tuple ha
  obtain ⟨its2, r2, p2, _⟩ := I.tuple hb
  refine PySem.W.gt_data (reads_tupI r1 p1) (reads_tupI r2 p2) (alike_tupI ns ms) (fun z => nomatch z) (by have := depth_tupI ns; have := depth_tupI ms; omega) ?_
  rw [dataLt_lex]
  exact ⟨.bl (HT.lexLt ms ns), H, I, rfl, q⟩
theorem ec_cmT {op : CmpOp} {f : List Int → List Int → Bool} {ns ms : List Int} (ho : OpR X (compareOp op) (rCmT X.K f)) (ha : EE X C ρ a (.tup (D.ints ns))) (hb : EE X C ρ b (.tup (D.ints ms))) : EC X C ρ op a b (.bl (f ns ms)) :=
  ec_opD ho ha hb fun σ H v u S r1 r2 Q q => by
    cases r1 with
    | tup s1 t1 =>
      cases r2 with
      | tup s2 t2 =>
        have e1 := t1.ints
        have e2 := t2.ints
        subst e1 e2
        exact ⟨_, _, ns, ms, rfl, rfl, Same.seqT S.visIn (tq s1), Same.seqT S.visIn (tq s2), q H (Same.refl H)⟩
abbrev cLt := c2 ltD
abbrev cLe := c2 leD
abbrev cGt := c2 gtD
abbrev cGe := c2 geD
theorem cm_lt (hu : X.A.units + 64 < cLine) (ha : EM X a ma) (hb : EM X b mb) : CM X .Lt a b (cLt ma mb) := cm_c2 ha hb fun C ρ x y k h1 h2 q => by
  unfold ltD at q
  split at q
  · cases q; exact ec_lt h1 h2
  · split at q
    · rename_i ns ms e1 e2
      cases q
      rw [intsOf_eq e1] at h1
      rw [intsOf_eq e2] at h2
      exact ec_ltT (by omega) h1 h2
    · cases q
  · cases q
theorem cm_le (hu : X.A.units + 64 < cLine) (ha : EM X a ma) (hb : EM X b mb) : CM X .LtE a b (cLe ma mb) := cm_c2 ha hb fun C ρ x y k h1 h2 q => by
  unfold leD at q
  split at q
  · cases q; exact ec_le h1 h2
  · obtain ⟨ns, ms, e1, e2, rfl⟩ := lexB_ok q
    rw [intsOf_eq e1] at h1
    rw [intsOf_eq e2] at h2
    exact ec_cmT (f := fun ns ms => !HT.lexLt ms ns) (op_leT hu) h1 h2
  · cases q
theorem cm_gt (hu : X.A.units + 64 < cLine) (ha : EM X a ma) (hb : EM X b mb) : CM X .Gt a b (cGt ma mb) := cm_c2 ha hb fun C ρ x y k h1 h2 q => by
  unfold gtD at q
  split at q
  · cases q; exact ec_gt h1 h2
  · obtain ⟨ns, ms, e1, e2, rfl⟩ := lexB_ok q
    rw [intsOf_eq e1] at h1
    rw [intsOf_eq e2] at h2
    exact ec_cmT (f := fun ns ms => HT.lexLt ms ns) (op_gtT hu) h1 h2
  · cases q
theorem cm_ge (hu : X.A.units + 64 < cLine) (ha : EM X a ma) (hb : EM X b mb) : CM X .GtE a b (cGe ma mb) := cm_c2 ha hb fun C ρ x y k h1 h2 q => by
  unfold geD at q
  split at q
  · cases q; exact ec_ge h1 h2
  · obtain ⟨ns, ms, e1, e2, rfl⟩ := lexB_ok q
    rw [intsOf_eq e1] at h1
    rw [intsOf_eq e2] at h2
    exact ec_cmT (f := fun ns ms => !HT.lexLt ns ms) (op_geT hu) h1 h2
  · cases q
/-- can be compared -/
def goodB (d : D) : Bool := d.pyOk && decide (d.dep ≤ 64)
theorem goodB_iff {d : D} : goodB d = true ↔ d.Good := by unfold goodB D.Good; rw [Bool.and_eq_true, decide_eq_true_iff]
def eqD : D → D → R Bool
  | .at (.int i), .at (.int j) => .ok (decide (i = j))
  | .at (.bl i), .at (.bl j) => .ok (i == j)
  | .at (.str i), .at (.str j) => .ok (i == j)
  | x, y => if goodB x = true ∧ goodB y = true then .ok (D.eqb x y) else .bad
def cEq (ma mb : MX) : Fr → R Bool := fun E => match toL (ma E) with
  | .ok xs => (match toL (mb E) with
    | .ok ys => if goodB (.lst xs) = true ∧ goodB (.lst ys) = true then .ok (D.eqb (.lst xs) (.lst ys)) else .bad
    | _ => c2 eqD ma mb E)
  | _ => c2 eqD ma mb E
def notR : R Bool → R Bool
  | .ok b => .ok (!b)
  | .er n => .er n
  | .bad => .bad
theorem notR_ok {r : R Bool} {k : Bool} (h : notR r = .ok k) : ∃ k', r = .ok k' ∧ k = !k' := by
  cases r <;> cases h
  exact ⟨_, rfl, rfl⟩
def cNe (ma mb : MX) : Fr → R Bool := fun E => notR (cEq ma mb E)
theorem eqD_ok (hu : X.A.units + 64 < cLine) {C : Ctx} {ρ : Rho} {x y : D} {k : Bool} (h1 : EE X C ρ a x) (h2 : EE X C ρ b y) (q : eqD x y = .ok k) : EC X C ρ .Eq a b (.bl k) ∧ EC X C ρ .NotEq a b (.bl (!k)) := by
  unfold eqD at q
  split at q
  · cases q; exact ⟨ec_eqI h1 h2, ec_neI h1 h2⟩
  · cases q; exact ⟨ec_eqB h1 h2, ec_neB h1 h2⟩
  · cases q; exact ⟨ec_eqS h1 h2, ec_neS h1 h2⟩
  · split at q
    · rename_i g
      cases q
      exact ⟨ec_eqD hu h1 h2 (goodB_iff.mp g.1) (goodB_iff.mp g.2), ec_neD hu h1 h2 (goodB_iff.mp g.1) (goodB_iff.mp g.2)⟩
    · cases q
theorem cm_eqs (hu : X.A.units + 64 < cLine) (ha : EM X a ma) (hb : EM X b mb) {C : Ctx} {ρ : Rho} {k : Bool} (q : cEq ma mb (frOf ρ) = .ok k) : EC X C ρ .Eq a b (.bl k) ∧ EC X C ρ .NotEq a b (.bl (!k)) := by
  have two : c2 eqD ma mb (frOf ρ) = .ok k → EC X C ρ .Eq a b (.bl k) ∧ EC X C ρ .NotEq a b (.bl (!k)) := fun q =>
    ⟨cm_c2 ha hb (fun C ρ x y k h1 h2 q => (eqD_ok hu h1 h2 q).1) C ρ k q, by
      unfold c2 at q
      split at q
      · rename_i x q1
        split at q
        · rename_i y q2
          exact (eqD_ok hu (ha.ee q1) (hb.ee q2) q).2
        · cases q
      · cases q⟩
  unfold cEq at q
  split at q
  · rename_i xs q1
    split at q
    · rename_i ys q2
      split at q
      · rename_i g
        cases q
        exact ⟨ec_eqL hu (ha.el q1) (hb.el q2) (goodB_iff.mp g.1) (goodB_iff.mp g.2), ec_neL hu (ha.el q1) (hb.el q2) (goodB_iff.mp g.1) (goodB_iff.mp g.2)⟩
      · cases q
    · exact two q
  · exact two q
theorem cm_eq (hu : X.A.units + 64 < cLine) (ha : EM X a ma) (hb : EM X b mb) : CM X .Eq a b (cEq ma mb) := .mk fun C ρ k q => (cm_eqs hu ha hb q).1
theorem cm_ne (hu : X.A.units + 64 < cLine) (ha : EM X a ma) (hb : EM X b mb) : CM X .NotEq a b (cNe ma mb) := .mk fun C ρ k q => by
  obtain ⟨k', q', rfl⟩ := notR_ok q
  exact (cm_eqs hu ha hb q').2
/-- is None -/
def nonR : R RV → R Bool
  | .ok (.im d) => .ok d.isNon
  | .ok (.fr _) => .ok false
  | .ok (.ro _) => .ok false
  | _ => .bad
def cIsN (m : MX) : Fr → R Bool := fun E => nonR (m E)
def cNotN (m : MX) : Fr → R Bool := fun E => notR (nonR (m E))
theorem ec_isNL (ha : EL X C ρ a ds) {j p} : EC X C ρ .Is a (.Constant .none j p) (.bl false) := fun σ H S Q q pins s I => by
  refine binT pe_wp pe_wp I (R := fun v u H2 => u = .non ∧ Q (.bl (decide (v = .non))) H2) (ha σ H S _ fun l xs H1 s1 sq r1 => (ee_non (C := C) (ρ := ρ)) σ H1 (S.same s1) _ fun u H2 s2 r2 => ?_) fun v u s2 x y H2 I2 rx ry q2 => op_isN pins s2 σ H2 x y v u Q I2 rx ry q2
  cases r2
  exact ⟨rfl, q H2 (s1.trans s2)⟩
theorem ec_notNL (ha : EL X C ρ a ds) {j p} : EC X C ρ .IsNot a (.Constant .none j p) (.bl true) := fun σ H S Q q pins s I => by
  refine binT pe_wp pe_wp I (R := fun v u H2 => u = .non ∧ Q (.bl (!decide (v = .non))) H2) (ha σ H S _ fun l xs H1 s1 sq r1 => (ee_non (C := C) (ρ := ρ)) σ H1 (S.same s1) _ fun u H2 s2 r2 => ?_) fun v u s2 x y H2 I2 rx ry q2 => op_notN pins s2 σ H2 x y v u Q I2 rx ry q2
  cases r2
  exact ⟨rfl, q H2 (s1.trans s2)⟩
theorem nonR_ok {r : R RV} {k : Bool} (h : OKV X C ρ a r) (q : nonR r = .ok k) {j p} : EC X C ρ .Is a (.Constant .none j p) (.bl k) ∧ EC X C ρ .IsNot a (.Constant .none j p) (.bl (!k)) := by
  rcases r with (d | ds | ds) | n | _ <;> cases q
  · exact ⟨ec_isN h, ec_notN h⟩
  · exact ⟨ec_isNL (EF.el h), ec_notNL (EF.el h)⟩
  · exact ⟨ec_isNL h, ec_notNL h⟩
theorem cm_isN (ha : EM X a ma) {j p} : CM X .Is a (.Constant .none j p) (cIsN ma) := .mk fun C ρ k q => (nonR_ok (ha C ρ) q).1
theorem cm_notN (ha : EM X a ma) {j p} : CM X .IsNot a (.Constant .none j p) (cNotN ma) := .mk fun C ρ k q => by
  obtain ⟨k', q', rfl⟩ := notR_ok q
  exact (nonR_ok (ha C ρ) q').2
/-- in a list -/
def inR (x : R D) (l : R (List D)) : R Bool := match x with
  | .ok x => (match l with
    | .ok ds => if goodB x = true ∧ goodB (.lst ds) = true then .ok (ds.any fun z => D.eqb z x) else .bad
    | _ => .bad)
  | _ => .bad
def cIn (ma mb : MX) : Fr → R Bool := fun E => inR (toD (ma E)) (toL (mb E))
def cNotIn (ma mb : MX) : Fr → R Bool := fun E => notR (inR (toD (ma E)) (toL (mb E)))
theorem inR_ok (hu : X.A.units + 65 < cLine) (ha : EM X a ma) (hb : EM X b mb) {k : Bool} (q : inR (toD (ma (frOf ρ))) (toL (mb (frOf ρ))) = .ok k) : EC X C ρ .In a b (.bl k) ∧ EC X C ρ .NotIn a b (.bl (!k)) := by
  unfold inR at q
  split at q
  · rename_i x q1
    split at q
    · rename_i ds q2
      split at q
      · rename_i g
        cases q
        exact ⟨ec_inD hu (ha.ee q1) (hb.el q2) (goodB_iff.mp g.1) (goodB_iff.mp g.2), ec_ninD hu (ha.ee q1) (hb.el q2) (goodB_iff.mp g.1) (goodB_iff.mp g.2)⟩
      · cases q
    · cases q
  · cases q
theorem cm_in (hu : X.A.units + 65 < cLine) (ha : EM X a ma) (hb : EM X b mb) : CM X .In a b (cIn ma mb) := .mk fun C ρ k q => (inR_ok hu ha hb q).1
theorem cm_nin (hu : X.A.units + 65 < cLine) (ha : EM X a ma) (hb : EM X b mb) : CM X .NotIn a b (cNotIn ma mb) := .mk fun C ρ k q => by
  obtain ⟨k', q', rfl⟩ := notR_ok q
  exact (inR_ok hu ha hb q').2
def blR : R Bool → R RV
  | .ok b => .ok (.im (.bl b))
  | _ => .bad
def eCmp (c : Fr → R Bool) : MX := fun E => blR (c E)
theorem em_bool {c : Fr → R Bool} (h : ∀ C ρ k, c (frOf ρ) = .ok k → EE X C ρ e (.bl k)) : EM X e (eCmp c) := .mk fun C ρ => by
  unfold eCmp
  cases q : c (frOf ρ) with
  | ok k => exact h C ρ k q
  | er n => trivial
  | bad => trivial
theorem em_cmp {op : CmpOp} {c : Fr → R Bool} (h : CM X op a b c) (h1 : behindInMarks op b = false := by first | exact nobehind _ (by decide) (by decide) | rfl) : EM X (.Compare a [op] [b] pos) (eCmp c) := em_bool fun C ρ k q => ee_cmp (h C ρ k q) h1

/-! ### tests -/
structure TM (X : Cx) (e : Expr) (t : Fr → R Bool) : Prop where
  run : ∀ C ρ k, t (frOf ρ) = .ok k → ET X C ρ e k
instance {X : Cx} {e : Expr} {t : Fr → R Bool} : CoeFun (TM X e t) fun _ => ∀ C ρ k, t (frOf ρ) = .ok k → ET X C ρ e k := ⟨fun h => h.run⟩
structure WM (X : Cx) (e : Expr) (t : Fr → R Bool) : Prop where
  run : ∀ C ρ k, t (frOf ρ) = .ok k → EW X C ρ e k
instance {X : Cx} {e : Expr} {t : Fr → R Bool} : CoeFun (WM X e t) fun _ => ∀ C ρ k, t (frOf ρ) = .ok k → EW X C ρ e k := ⟨fun h => h.run⟩
theorem tm_cmp {op : CmpOp} {c : Fr → R Bool} (h : CM X op a b c) (h1 : behindInMarks op b = false := by first | exact nobehind _ (by decide) (by decide) | rfl) : TM X (.Compare a [op] [b] pos) c := .mk fun C ρ k q => et_cmp (h C ρ k q) h1
theorem WM.tm {t : Fr → R Bool} (h : WM X e t) : TM X e t := .mk fun C ρ k q => (h C ρ k q).et
def tAnd (t u : Fr → R Bool) : Fr → R Bool := fun E => match t E with
  | .ok true => u E
  | .ok false => .ok false
  | _ => .bad
def tOr (t u : Fr → R Bool) : Fr → R Bool := fun E => match t E with
  | .ok false => u E
  | .ok true => .ok true
  | _ => .bad
def tNot (t : Fr → R Bool) : Fr → R Bool := fun E => notR (t E)
variable {t u : Fr → R Bool} {rest : List Expr}
theorem wm_and1 (h : TM X a t) : WM X (.BoolOp .And [a] pos) t := .mk fun C ρ k q => ew_and1 (h C ρ k q)
theorem wm_or1 (h : TM X a t) : WM X (.BoolOp .Or [a] pos) t := .mk fun C ρ k q => ew_or1 (h C ρ k q)
theorem wm_and (h : TM X a t) (h2 : WM X (.BoolOp .And (b :: rest) pos) u) : WM X (.BoolOp .And (a :: b :: rest) pos) (tAnd t u) := .mk fun C ρ k q => by
  unfold tAnd at q
  split at q
  · rename_i q1
    exact ew_and (k := true) (h C ρ _ q1) fun _ => h2 C ρ k q
  · rename_i q1
    cases q
    exact ew_and (k := false) (k' := true) (h C ρ _ q1) fun z => nomatch z
  · cases q
theorem wm_or (h : TM X a t) (h2 : WM X (.BoolOp .Or (b :: rest) pos) u) : WM X (.BoolOp .Or (a :: b :: rest) pos) (tOr t u) := .mk fun C ρ k q => by
  unfold tOr at q
  split at q
  · rename_i q1
    exact ew_or (k := false) (h C ρ _ q1) fun _ => h2 C ρ k q
  · rename_i q1
    cases q
    exact ew_or (k := true) (k' := true) (h C ρ _ q1) fun z => nomatch z
  · cases q
theorem tm_not (h : TM X a t) : TM X (.UnaryOp .Not a pos) (tNot t) := .mk fun C ρ k q => by
  obtain ⟨k', q', rfl⟩ := notR_ok q
  exact et_not (h C ρ _ q')
def truR : R RV → R Bool
  | .ok (.im (.at (.bl b))) => .ok b
  | .ok (.im (.lst ds)) => .ok (!ds.isEmpty)
  | .ok (.fr ds) => .ok (!ds.isEmpty)
  | .ok (.ro ds) => .ok (!ds.isEmpty)
  | _ => .bad
def tVal (m : MX) : Fr → R Bool := fun E => truR (m E)
theorem tm_val (h : EM X e m) (he : ∀ whole, isTrue e X.env whole = (do let v ← whole; standAt e.pos; holding [v] (truthy v)) := by intro _; rfl) : TM X e (tVal m) := .mk fun C ρ k q => by
  have h' := h C ρ
  unfold tVal at q
  revert h' q
  generalize m (frOf ρ) = r
  intro q h'
  unfold truR at q
  split at q
  · cases q; exact et_val h' he
  · cases q; exact et_lst (EE.el h') he
  · cases q; exact et_lst (EF.el h') he
  · cases q; exact et_lst h' he
  · cases q
/-- .. as values, of bools -/
def bolR : R RV → R Bool
  | .ok (.im (.at (.bl b))) => .ok b
  | _ => .bad
def eAnd (m n : MX) : MX := fun E => blR (tAnd (fun E => bolR (m E)) (fun E => bolR (n E)) E)
def eOr (m n : MX) : MX := fun E => blR (tOr (fun E => bolR (m E)) (fun E => bolR (n E)) E)
def eNot (m : MX) : MX := fun E => blR (notR (bolR (m E)))
theorem bolR_ee {m : MX} {k : Bool} (h : EM X e m) (q : bolR (m (frOf ρ)) = .ok k) : EE X C ρ e (.bl k) := by
  have h' := h C ρ
  revert h' q
  generalize m (frOf ρ) = r
  intro q h'
  unfold bolR at q
  split at q
  · cases q; exact h'
  · cases q
theorem em_b1 {op} (h : EM X a m) : EM X (.BoolOp op [a] pos) m := .mk fun C ρ => by
  have h' := h C ρ
  revert h'
  generalize m (frOf ρ) = r
  rcases r with (d | ds | ds) | n | _ <;> intro h'
  · exact ee_b1 h'
  · exact fun σ H S Q q => wpE_of (pe_one pe_wp) (h' σ H S Q q)
  · exact fun σ H S Q q => wpE_of (pe_one pe_wp) (h' σ H S Q q)
  · exact fun σ H S W tk hW Q => wpE_of (pe_one pe_wp) (h' σ H S W tk hW Q)
  · trivial
theorem em_and (h : EM X a ma) (h2 : EM X (.BoolOp .And (b :: rest) pos) mb) : EM X (.BoolOp .And (a :: b :: rest) pos) (eAnd ma mb) := em_bool (c := tAnd (fun E => bolR (ma E)) (fun E => bolR (mb E))) fun C ρ k q => by
  unfold tAnd at q
  split at q
  · rename_i q1
    exact ee_and (k := true) (bolR_ee h q1) fun _ => bolR_ee h2 q
  · rename_i q1
    cases q
    exact ee_and (k := false) (k' := true) (bolR_ee h q1) fun z => nomatch z
  · cases q
theorem em_or (h : EM X a ma) (h2 : EM X (.BoolOp .Or (b :: rest) pos) mb) : EM X (.BoolOp .Or (a :: b :: rest) pos) (eOr ma mb) := em_bool (c := tOr (fun E => bolR (ma E)) (fun E => bolR (mb E))) fun C ρ k q => by
  unfold tOr at q
  split at q
  · rename_i q1
    exact ee_or (k := false) (bolR_ee h q1) fun _ => bolR_ee h2 q
  · rename_i q1
    cases q
    exact ee_or (k := true) (k' := true) (bolR_ee h q1) fun z => nomatch z
  · cases q
theorem em_not (h : EM X a ma) : EM X (.UnaryOp .Not a pos) (eNot ma) := em_bool (c := fun E => notR (bolR (ma E))) fun C ρ k q => by
  obtain ⟨k', q', rfl⟩ := notR_ok q
  exact ee_not (bolR_ee h q')
def eIf (t : Fr → R Bool) (m n : MX) : MX := fun E => match t E with
  | .ok b => blend b (toD (m E)) (toD (n E))
  | _ => .bad
where blend (b : Bool) (x y : R D) : R RV := match b with
  | true => (match x with | .ok d => .ok (.im d) | _ => .bad)
  | false => (match y with | .ok d => .ok (.im d) | _ => .bad)
theorem em_ifExp (h : TM X c t) (h1 : EM X a ma) (h2 : EM X b mb) : EM X (.IfExp c a b pos) (eIf t ma mb) := .mk fun C ρ => by
  unfold eIf
  split
  · rename_i k q
    unfold eIf.blend
    cases k with
    | true =>
      dsimp only
      split
      · rename_i d q1
        exact (ee_ifExp (d1 := d) (d2 := d) (h C ρ _ q) (fun _ => h1.ee q1) fun z => nomatch z).eq (by simp)
      · trivial
    | false =>
      dsimp only
      split
      · rename_i d q1
        exact (ee_ifExp (d1 := d) (d2 := d) (h C ρ _ q) (fun z => nomatch z) fun _ => h2.ee q1).eq (by simp)
      · trivial
  · trivial
/-- a < b < c of ints -/
def chainR (p1 p2 : Int → Int → Bool) : R D → R D → R D → R Bool
  | .ok (.at (.int i)), .ok (.at (.int j)), .ok (.at (.int l)) => .ok (p1 i j && p2 j l)
  | _, _, _ => .bad
def cChain (p1 p2 : Int → Int → Bool) (ma mb mc : MX) : Fr → R Bool := fun E => chainR p1 p2 (toD (ma E)) (toD (mb E)) (toD (mc E))
theorem chain_ok {p1 p2 : Int → Int → Bool} {x y z : R D} {k : Bool} (h : chainR p1 p2 x y z = .ok k) : ∃ i j l, x = .ok (.int i) ∧ y = .ok (.int j) ∧ z = .ok (.int l) ∧ k = (p1 i j && p2 j l) := by
  unfold chainR at h
  split at h
  · cases h; exact ⟨_, _, _, rfl, rfl, rfl, rfl⟩
  · cases h
theorem em_chain {o1 o2 : CmpOp} {p1 p2 : Int → Int → Bool} (h1 : OpR X (compareOp o1) (rI0 fun i j => .bl (p1 i j))) (h2 : OpR X (compareOp o2) (rI0 fun i j => .bl (p2 i j))) (ha : EM X a ma) (hb : EM X b mb) (hc : EM X c mc) (hm : lastMarks [o1, o2] [b, c] = false := by with_unfolding_all rfl) :
    EM X (.Compare a [o1, o2] [b, c] pos) (eCmp (cChain p1 p2 ma mb mc)) := em_bool fun C ρ k q => by
  obtain ⟨i, j, l, q1, q2, q3, rfl⟩ := chain_ok q
  exact ec_chain h1 h2 (ha.ee q1) (hb.ee q2) (hc.ee q3) hm
theorem tm_chain {o1 o2 : CmpOp} {p1 p2 : Int → Int → Bool} (h1 : OpR X (compareOp o1) (rI0 fun i j => .bl (p1 i j))) (h2 : OpR X (compareOp o2) (rI0 fun i j => .bl (p2 i j))) (ha : EM X a ma) (hb : EM X b mb) (hc : EM X c mc) (hm : lastMarks [o1, o2] [b, c] = false := by with_unfolding_all rfl) :
    TM X (.Compare a [o1, o2] [b, c] pos) (cChain p1 p2 ma mb mc) := .mk fun C ρ k q => by
  obtain ⟨i, j, l, q1, q2, q3, rfl⟩ := chain_ok q
  exact et_chain h1 h2 (ha.ee q1) (hb.ee q2) (hc.ee q3) hm
end
end DL

namespace DL
open PySem PySem.Spec PyProof.Rows L2
section
variable {X : Cx} {C : Ctx} {ρ : Rho} {e a b c : Expr} {es : List Expr} {m ma mb mc : MX} {d : D} {ds : List D} {pos p : Pos} {t : Fr → R Bool}
/-! ### argument lists -/
structure AM (X : Cx) (es : List Expr) (ma : Fr → R (List D)) : Prop where
  run : ∀ C ρ ds, ma (frOf ρ) = .ok ds → EA X C ρ es ds ∧ ds.length = es.length
instance {X : Cx} {es : List Expr} {ma : Fr → R (List D)} : CoeFun (AM X es ma) fun _ => ∀ C ρ ds, ma (frOf ρ) = .ok ds → EA X C ρ es ds ∧ ds.length = es.length := ⟨fun h => h.run⟩
structure AL (X : Cx) (es : List Expr) (ma : Fr → R (List D)) : Prop where
  run : ∀ C ρ ds, ma (frOf ρ) = .ok ds → EAl X C ρ es ds ∧ ds.length = es.length
instance {X : Cx} {es : List Expr} {ma : Fr → R (List D)} : CoeFun (AL X es ma) fun _ => ∀ C ρ ds, ma (frOf ρ) = .ok ds → EAl X C ρ es ds ∧ ds.length = es.length := ⟨fun h => h.run⟩
def consR (x : R D) (l : R (List D)) : R (List D) := match x with
  | .ok d => (match l with
    | .ok ds => .ok (d :: ds)
    | _ => .bad)
  | _ => .bad
theorem consR_ok {x : R D} {l : R (List D)} {ds : List D} (h : consR x l = .ok ds) : ∃ d es, x = .ok d ∧ l = .ok es ∧ ds = d :: es := by
  unfold consR at h
  split at h
  · split at h
    · cases h; exact ⟨_, _, rfl, rfl, rfl⟩
    · cases h
  · cases h
def aNil : Fr → R (List D) := fun _ => .ok []
def aCons (m : MX) (ma : Fr → R (List D)) : Fr → R (List D) := fun E => consR (toD (m E)) (ma E)
def lCons (m : MX) (ma : Fr → R (List D)) : Fr → R (List D) := fun E => consR (toA (m E)) (ma E)
theorem am_nil : AM X [] aNil := .mk fun C ρ ds q => by cases q; exact ⟨ea_nil, rfl⟩
theorem am_cons {mr : Fr → R (List D)} (h : EM X e m) (hr : AM X es mr) (hs : starEach (e :: es) X.env = (false, eval e X.env) :: starEach es X.env := by exact se_of rfl) : AM X (e :: es) (aCons m mr) := .mk fun C ρ ds q => by
  obtain ⟨d, ds', q1, q2, rfl⟩ := consR_ok q
  exact ⟨ea_cons (h.ee q1) (hr C ρ _ q2).1 hs, congrArg (· + 1) (hr C ρ _ q2).2⟩
theorem al_nil : AL X [] aNil := .mk fun C ρ ds q => by cases q; exact ⟨eal_nil, rfl⟩
theorem al_cons {mr : Fr → R (List D)} (h : EM X e m) (hr : AL X es mr) (hs : starEach (e :: es) X.env = (false, eval e X.env) :: starEach es X.env := by exact se_of rfl) : AL X (e :: es) (lCons m mr) := .mk fun C ρ ds q => by
  obtain ⟨d, ds', q1, q2, rfl⟩ := consR_ok q
  refine ⟨?_, congrArg (· + 1) (hr C ρ _ q2).2⟩
  have h' := h C ρ
  revert h' q1
  generalize m (frOf ρ) = r
  intro q1 h'
  rcases r with (d' | l | l) | n | _ <;> cases q1
  · exact eal_cons h' (hr C ρ _ q2).1 hs
  · exact eal_consL (EF.el h') (hr C ρ _ q2).1 hs
  · exact eal_consL h' (hr C ρ _ q2).1 hs
def tupR (l : R (List D)) : R RV := match l with
  | .ok ds => .ok (.im (.tup ds))
  | _ => .bad
def lstR (l : R (List D)) : R RV := match l with
  | .ok ds => .ok (.fr ds)
  | _ => .bad
def eTup (ma : Fr → R (List D)) : MX := fun E => tupR (ma E)
def eLst (ma : Fr → R (List D)) : MX := fun E => lstR (ma E)
theorem em_tup {mr : Fr → R (List D)} (h : AM X es mr) {x1} (hl : es.length ≤ sizeLine := by exact Nat.le_of_ble_eq_true rfl) : EM X (.Tuple es x1 pos) (eTup mr) := .mk fun C ρ => by
  unfold eTup
  cases q : mr (frOf ρ) with
  | ok ds => exact ee_tup (h C ρ _ q).1 (by rw [(h C ρ _ q).2]; exact hl)
  | er n => trivial
  | bad => trivial
theorem em_lst {mr : Fr → R (List D)} (h : AM X es mr) (hl : es.length ≤ sizeLine := by exact Nat.le_of_ble_eq_true rfl) : EM X (.List es pos) (eLst mr) := .mk fun C ρ => by
  unfold eLst
  cases q : mr (frOf ρ) with
  | ok ds => exact ef_lst (h C ρ _ q).1 (by rw [(h C ρ _ q).2]; exact hl)
  | er n => trivial
  | bad => trivial

/-! ### subscripts -/
def atR (l : List D) (i : Int) : R RV := match atI l i with
  | some d => .ok (.im d)
  | none => .bad
theorem atR_ok {l : List D} {i : Int} {d : D} (h : atI l i = some d) : atR l i = .ok (.im d) := by unfold atR; rw [h]
/-- a sign of a text -/
def chR (z : Str) (i : Int) : R RV := match atI z.cps.toList i with
  | some c => if z.length ≤ sizeLine then .ok (.im (.str ⟨#[c]⟩)) else .bad
  | none => .bad
def ixR (v : R RV) (k : R D) : R RV := match k with
  | .ok (.at (.int i)) => (match v with
    | .ok (.im (.at (.str z))) => chR z i
    | .ok (.im (.tup ds)) => atR ds i
    | .ok (.im (.lst ds)) => atR ds i
    | .ok (.fr ds) => atR ds i
    | .ok (.ro ds) => atR ds i
    | _ => .bad)
  | _ => .bad
def eIx (m k : MX) : MX := fun E => ixR (m E) (toD (k E))
theorem okv_at {l : List D} {i : Int} (h : ∀ d, atI l i = some d → EE X C ρ e d) : OKV X C ρ e (atR l i) := by
  unfold atR
  split
  · exact h _ (by assumption)
  · trivial
theorem em_ix (ha : EM X a ma) (hb : EM X b mb) (hp : PlainIx b := by intro _ _; rfl) : EM X (.Subscript a b pos) (eIx ma mb) := .mk fun C ρ => by
  unfold eIx
  have ha' := ha C ρ
  revert ha'
  generalize ma (frOf ρ) = r
  intro ha'
  unfold ixR
  split
  · rename_i i q
    have hb' := hb.ee (C := C) q
    split
    · rename_i z
      unfold chR
      split
      · split
        · exact ee_ixS ha' hb' (by assumption) (by assumption) hp
        · trivial
      · trivial
    · exact okv_at fun d h => ee_ixT ha' hb' h hp
    · exact okv_at fun d h => ee_ixL (EE.el ha') hb' h hp
    · exact okv_at fun d h => ee_ixL (EF.el ha') hb' h hp
    · exact okv_at fun d h => ee_ixL ha' hb' h hp
    · trivial
  · trivial
/-- a slice's part -/
structure OM (X : Cx) (e : Option Expr) (o : Fr → R (Option Int)) : Prop where
  run : ∀ C ρ x, o (frOf ρ) = .ok x → EO X C ρ e x
instance {X : Cx} {e : Option Expr} {o : Fr → R (Option Int)} : CoeFun (OM X e o) fun _ => ∀ C ρ x, o (frOf ρ) = .ok x → EO X C ρ e x := ⟨fun h => h.run⟩
def oNone : Fr → R (Option Int) := fun _ => .ok none
def intR (r : R D) : R (Option Int) := match r with
  | .ok (.at (.int i)) => .ok (some i)
  | _ => .bad
def oSome (m : MX) : Fr → R (Option Int) := fun E => intR (toD (m E))
theorem om_none : OM X none oNone := .mk fun C ρ x q => by cases q; exact eo_none
theorem om_some (h : EM X e m) : OM X (some e) (oSome m) := .mk fun C ρ x q => by
  unfold oSome intR at q
  split at q
  · rename_i i q1
    cases q
    exact eo_some (h.ee q1)
  · cases q
def slR (v : R RV) (l u : R (Option Int)) : R RV := match l with
  | .ok lo => (match u with
    | .ok hi => (match v with
      | .ok (.im (.at (.str z))) => if z.length ≤ sizeLine then .ok (.im (.str (cutS z lo hi))) else .bad
      | .ok (.im (.tup ds)) => if HT.sIx ds.length 0 lo = 0 ∧ HT.sIx ds.length ds.length hi = ds.length then .bad else .ok (.im (.tup (cutD ds lo hi)))
      | .ok (.im (.lst ds)) => .ok (.fr (cutD ds lo hi))
      | .ok (.fr ds) => .ok (.fr (cutD ds lo hi))
      | .ok (.ro ds) => .ok (.fr (cutD ds lo hi))
      | _ => .bad)
    | _ => .bad)
  | _ => .bad
def eSl (m : MX) (l u : Fr → R (Option Int)) : MX := fun E => slR (m E) (l E) (u E)
theorem em_sl {lo hi : Option Expr} {l u : Fr → R (Option Int)} {p2 : Pos} (ha : EM X a ma) (hl : OM X lo l) (hu : OM X hi u) : EM X (.Subscript a (.Slice lo hi none p2) pos) (eSl ma l u) := .mk fun C ρ => by
  unfold eSl
  have ha' := ha C ρ
  revert ha'
  generalize ma (frOf ρ) = r
  intro ha'
  unfold slR
  split
  · rename_i x q1
    have hl' := hl C ρ x q1
    split
    · rename_i y q2
      have hu' := hu C ρ y q2
      split
      · split
        · exact ee_sliceS ha' hl' hu' (by assumption)
        · trivial
      · split
        · trivial
        · exact ee_sliceT ha' hl' hu' (by assumption)
      · exact ef_slice (EE.el ha') hl' hu'
      · exact ef_slice (EF.el ha') hl' hu'
      · exact ef_slice ha' hl' hu'
      · trivial
    · trivial
  · trivial
def eRev (m : MX) : MX := fun E => lstR (revR (toL (m E)))
where revR (l : R (List D)) : R (List D) := match l with
  | .ok ds => .ok ds.reverse
  | _ => .bad
theorem em_rev {k : Nat} {p1 p2 p3 : Pos} (h : EM X e m) : EM X (.Subscript e (.Slice none none (some (.UnaryOp .USub (.Constant (.int 1) k p1) p2)) p3) pos) (eRev m) := .mk fun C ρ => by
  unfold eRev eRev.revR
  cases q : toL (m (frOf ρ)) with
  | ok ds => exact ef_rev (h.el q)
  | er n => trivial
  | bad => trivial

/-! ### built-in calls -/
def mapL (f : List D → R RV) (l : R (List D)) : R RV := match l with
  | .ok ds => f ds
  | _ => .bad
theorem em_onL {f : List D → R RV} (h : EM X a m) (hf : ∀ C ρ ds, EL X C ρ a ds → OKV X C ρ e (f ds)) : EM X e (fun E => mapL f (toL (m E))) := .mk fun C ρ => by
  show OKV X C ρ e (mapL f (toL (m (frOf ρ))))
  cases q : toL (m (frOf ρ)) with
  | ok ds => exact hf C ρ ds (h.el q)
  | er n => trivial
  | bad => trivial
def lenR : R RV → R RV
  | .ok (.im (.at (.str z))) => if z.length ≤ sizeLine then .ok (.im (.int z.length)) else .bad
  | .ok (.im (.tup ds)) => .ok (.im (.int ds.length))
  | .ok (.im (.lst ds)) => .ok (.im (.int ds.length))
  | .ok (.fr ds) => .ok (.im (.int ds.length))
  | .ok (.ro ds) => .ok (.im (.int ds.length))
  | _ => .bad
def eLen (m : MX) : MX := fun E => lenR (m E)
theorem em_len {p : Pos} (hm : X.mg "len" = none) (ha : EM X e m) (hg : Gl X "len" := by rfl) (he : starEach [e] X.env = (false, eval e X.env) :: starEach [] X.env := by exact se_of rfl) : EM X (.Call (.Name "len" p) [e] [] pos) (eLen m) := .mk fun C ρ => by
  unfold eLen
  have ha' := ha C ρ
  revert ha'
  generalize m (frOf ρ) = r
  intro ha'
  unfold lenR
  split
  · split
    · exact ee_lenS hm ha' (by assumption) hg he
    · trivial
  · exact ee_lenT hm ha' hg he
  · exact ee_lenL hm (EE.el ha') hg he
  · exact ee_lenL hm (EF.el ha') hg he
  · exact ee_lenL hm ha' hg he
  · trivial
def onInts (f : List Int → R RV) (ds : List D) : R RV := match intsOf ds with
  | some ns => f ns
  | none => .bad
theorem onInts_ints (f : List Int → R RV) (ns : List Int) : onInts f (D.ints ns) = f ns := by unfold onInts; rw [intsOf_ints]
def sumI (ns : List Int) : R RV := .ok (.im (.int ns.sum))
def minR (ns : List Int) : R RV := match ns with
  | [] => .bad
  | _ => .ok (.im (.int (minI ns)))
def maxR (ns : List Int) : R RV := match ns with
  | [] => .bad
  | _ => .ok (.im (.int (maxI ns)))
theorem minR_ok {ns : List Int} (h : ns ≠ []) : minR ns = .ok (.im (.int (minI ns))) := by
  cases ns with
  | nil => exact absurd rfl h
  | cons => rfl
theorem maxR_ok {ns : List Int} (h : ns ≠ []) : maxR ns = .ok (.im (.int (maxI ns))) := by
  cases ns with
  | nil => exact absurd rfl h
  | cons => rfl
def eSum (m : MX) : MX := fun E => mapL (onInts sumI) (toL (m E))
def eMinL (m : MX) : MX := fun E => mapL (onInts minR) (toL (m E))
def eMaxL (m : MX) : MX := fun E => mapL (onInts maxR) (toL (m E))
theorem okv_ints {f : List Int → R RV} {C : Ctx} {ρ : Rho} {ds : List D} (h : EL X C ρ a ds) (hf : ∀ ns, EL X C ρ a (D.ints ns) → OKV X C ρ e (f ns)) : OKV X C ρ e (onInts f ds) := by
  unfold onInts
  split
  · rename_i ns q
    rw [intsOf_eq q] at h
    exact hf ns h
  · trivial
theorem em_sum {p : Pos} (hm : X.mg "sum" = none) (ha : EM X e m) (hc : X.calm = true := by rfl) (hg : Gl X "sum" := by rfl) (he : starEach [e] X.env = (false, eval e X.env) :: starEach [] X.env := by exact se_of rfl) : EM X (.Call (.Name "sum" p) [e] [] pos) (eSum m) :=
  em_onL ha fun C ρ ds h => okv_ints h fun ns h => ee_sum hm h hc hg he
theorem em_minL {p : Pos} (hm : X.mg "min" = none) (ha : EM X e m) (hc : X.calm = true := by rfl) (hg : Gl X "min" := by rfl) (he : starEach [e] X.env = (false, eval e X.env) :: starEach [] X.env := by exact se_of rfl) : EM X (.Call (.Name "min" p) [e] [] pos) (eMinL m) :=
  em_onL ha fun C ρ ds h => okv_ints h fun ns h => by
    cases ns with
    | nil => trivial
    | cons n ns => exact ee_minL hm h (by simp) hc hg he
theorem em_maxL {p : Pos} (hm : X.mg "max" = none) (ha : EM X e m) (hc : X.calm = true := by rfl) (hg : Gl X "max" := by rfl) (he : starEach [e] X.env = (false, eval e X.env) :: starEach [] X.env := by exact se_of rfl) : EM X (.Call (.Name "max" p) [e] [] pos) (eMaxL m) :=
  em_onL ha fun C ρ ds h => okv_ints h fun ns h => by
    cases ns with
    | nil => trivial
    | cons n ns => exact ee_maxL hm h (by simp) hc hg he
/-- tuple(..), list(..) -/
def seqR (f : List D → RV) : R RV → R RV
  | .ok (.im (.tup ds)) => .ok (f ds)
  | .ok (.im (.lst ds)) => .ok (f ds)
  | .ok (.fr ds) => .ok (f ds)
  | .ok (.ro ds) => .ok (f ds)
  | _ => .bad
def imTup (ds : List D) : RV := .im (.tup ds)
def eTuple (m : MX) : MX := fun E => seqR imTup (m E)
def eList (m : MX) : MX := fun E => seqR .fr (m E)
theorem em_tuple {p : Pos} (hm : X.mg "tuple" = none) (ha : EM X e m) (hg : Gl X "tuple" := by rfl) (he : starEach [e] X.env = (false, eval e X.env) :: starEach [] X.env := by exact se_of rfl) : EM X (.Call (.Name "tuple" p) [e] [] pos) (eTuple m) := .mk fun C ρ => by
  unfold eTuple
  have ha' := ha C ρ
  revert ha'
  generalize m (frOf ρ) = r
  intro ha'
  unfold seqR
  split
  · exact ee_tupleT hm ha' hg he
  · exact ee_tupleL hm (EE.el ha') hg he
  · exact ee_tupleL hm (EF.el ha') hg he
  · exact ee_tupleL hm ha' hg he
  · trivial
theorem em_list {p : Pos} (hm : X.mg "list" = none) (ha : EM X e m) (hg : Gl X "list" := by rfl) (he : starEach [e] X.env = (false, eval e X.env) :: starEach [] X.env := by exact se_of rfl) : EM X (.Call (.Name "list" p) [e] [] pos) (eList m) := .mk fun C ρ => by
  unfold eList
  have ha' := ha C ρ
  revert ha'
  generalize m (frOf ρ) = r
  intro ha'
  unfold seqR
  split
  · exact ef_listT hm ha' hg he
  · exact ef_listL hm (EE.el ha') hg he
  · exact ef_listL hm (EF.el ha') hg he
  · exact ef_listL hm ha' hg he
  · trivial
/-- isinstance(x, T) -/
def tyB (n m : String) : Bool := n == m || (n == "bool" && m == "int")
def isiR (ms : String) : R D → R RV
  | .ok d => (match d.tyN with
    | some n => .ok (.im (.bl (tyB n ms)))
    | none => .bad)
  | _ => .bad
def eIsi (m : MX) (x : String) : MX := fun E => isiR x (toA (m E))
theorem kit_ty6 {d : D} {n : String} (h : d.tyN = some n) (m : String) (hm : m = "int" ∨ m = "bool" ∨ m = "str" ∨ m = "tuple" ∨ m = "list") : kitB n m = some (tyB n m) := by
  have e : n = "NoneType" ∨ n = "bool" ∨ n = "int" ∨ n = "str" ∨ n = "tuple" ∨ n = "list" ∨ n = "dict" := by
    cases d with
    | «at» v => cases v <;> simp [D.tyN] at h <;> subst h <;> simp
    | tup l => simp [D.tyN] at h; subst h; simp
    | lst l => simp [D.tyN] at h; subst h; simp
    | exc c => simp [D.tyN] at h
    | obj _ _ _ => simp [D.tyN] at h
    | dct => simp [D.tyN] at h; subst h; simp
    | any => simp [D.tyN] at h
  rcases e with rfl | rfl | rfl | rfl | rfl | rfl | rfl <;> rcases hm with rfl | rfl | rfl | rfl | rfl <;> decide +kernel
theorem em_isi {p q : Pos} {x : Str} {n : String} (hn : X.mg x = none) (hv : bootBuiltins x = some (.type n) := by decide +kernel) (hm : n = "int" ∨ n = "bool" ∨ n = "str" ∨ n = "tuple" ∨ n = "list") (hi : X.mg "isinstance" = none) (ha : EM X a ma)
    (hgx : Gl X x := by rfl) (hnx : x ≠ "__name__" := by decide) (hdx : (x == ("__debug__" : Str)) = false := by decide) (hg : Gl X "isinstance" := by rfl) (he : starEach [a, .Name x q] X.env = (false, eval a X.env) :: starEach [.Name x q] X.env := by exact se_of rfl) (he2 : starEach [.Name x q] X.env = (false, eval (.Name x q) X.env) :: starEach [] X.env := by exact se_of rfl)
    (hpl : (backTo pos (starEach [.Name x q] X.env)).any (·.1) = false := by rfl) : EM X (.Call (.Name "isinstance" p) [a, .Name x q] [] pos) (eIsi ma n) := .mk fun C ρ => by
  unfold eIsi isiR
  split
  · rename_i d q1
    split
    · rename_i k q2
      have ty : EE X C ρ (.Name x q) (.at (.ty n)) := ee_ty hn hv hgx hnx hdx
      have al : EAl X C ρ [a, .Name x q] [d, .at (.ty n)] := by
        have ha' := ha C ρ
        revert ha' q1
        generalize ma (frOf ρ) = r
        intro q1 ha'
        rcases r with (d' | l | l) | z | _ <;> cases q1
        · exact eal_cons ha' (eal_cons ty eal_nil he2) he
        · exact eal_consL (EF.el ha') (eal_cons ty eal_nil he2) he
        · exact eal_consL ha' (eal_cons ty eal_nil he2) he
      exact ee_isi _ hi al q2 (kit_ty6 q2 n hm) hg he hpl
    · trivial
  · trivial
/-- isinstance of a caught exception -/
def isxR (x : Str) (L : List (Str × Bool)) : R D → R RV
  | .ok (.exc n) => (match L.lookup n with
    | some b => .ok (.im (.bl b))
    | none => .bad)
  | _ => .bad
def eIsx (m : MX) (x : Str) (L : List (Str × Bool)) : MX := fun E => isxR x L (toD (m E))
/-- what is known of the classes: names, and whether each is one of x -/
def SubOk (K : PySem.W.Frag) (cv : Value) (L : List (Str × Bool)) : Prop := ∀ n b, L.lookup n = some b → ∃ Cl, clsOf K n = some Cl ∧ ExcC K Cl ∧ PySem.W.kitOne K (.ref Cl) cv = some b
theorem em_isx {p q : Pos} {x : Str} {v : V} {cv : Value} {L : List (Str × Bool)} (hi : X.mg "isinstance" = none) (hx : ∀ C ρ, EE X C ρ (.Name x q) (.at v)) (hk : ClsV v cv) (hL : SubOk X.K cv L) (ha : EM X a ma) (hg : Gl X "isinstance" := by rfl)
    (he : starEach [a, .Name x q] X.env = (false, eval a X.env) :: starEach [.Name x q] X.env := by exact se_of rfl) (he2 : starEach [.Name x q] X.env = (false, eval (.Name x q) X.env) :: starEach [] X.env := by exact se_of rfl) (hpl : (backTo pos (starEach [.Name x q] X.env)).any (·.1) = false := by rfl) :
    EM X (.Call (.Name "isinstance" p) [a, .Name x q] [] pos) (eIsx ma x L) := .mk fun C ρ => by
  unfold eIsx isxR
  split
  · rename_i n q1
    split
    · rename_i k q2
      obtain ⟨Cl, h1, h2, h3⟩ := hL n k q2
      exact ee_isX hi h1 h2 (ha.ee q1) (hx C ρ) hk h3 hg he he2 hpl
    · trivial
  · trivial

/-! ### own defs -/
def retV : R Ret → R RV
  | .ok (.im d) => .ok (.im d)
  | .ok (.fr ds) => .ok (.fr ds)
  | .er n => .er n
  | .bad => .bad
def resOf : R Ret → Res
  | .ok r => .ok r
  | .er n => .er n
  | .bad => .ok (.im .non)
def notBad {α : Type} (r : R α) : Prop := match r with
  | .bad => False
  | _ => True
/-- a def whose mirror is f, of n arguments -/
abbrev spM (K : PySem.W.Frag) (n : Nat) (f : List D → R Ret) : Sp := spF K (fun y : { l : List D // l.length = n } => y.1) (fun y => notBad (f y.1)) fun y => resOf (f y.1)
def callR (f : List D → R Ret) (l : R (List D)) : R RV := match l with
  | .ok ds => retV (f ds)
  | _ => .bad
def eCall (f : List D → R Ret) (ma : Fr → R (List D)) : MX := fun E => callR f (ma E)
variable {k n : Nat} {x : Str} {ps : List Str} {f : List D → R Ret}
theorem em_call {mr : Fr → R (List D)} (F : CalX X.prog X.w X.K X.mg X.base k x ps (spM X.K n f)) (hr : Room k X.A) (h : AM X (e :: es) mr) (hn : (e :: es).length = n := by rfl) (hg : Gl X x := by rfl) (hdb : (x == ("__debug__" : Str)) = false := by decide)
    (he : starEach (e :: es) X.env = (false, eval e X.env) :: starEach es X.env := by exact se_of rfl) (hpl : (backTo pos (starEach es X.env)).any (·.1) = false := by rfl) : EM X (.Call (.Name x p) (e :: es) [] pos) (eCall f mr) := .mk fun C ρ => by
  unfold eCall callR
  split
  · rename_i ds q
    obtain ⟨h1, h2⟩ := h C ρ ds q
    have hl : ds.length = n := h2.trans hn
    cases qf : f ds with
    | ok r =>
      cases r with
      | im d => exact ee_call (arg := fun y : { l : List D // l.length = n } => y.1) ⟨ds, hl⟩ F.cal hr h1 (by show notBad (f ds); rw [qf]; trivial) (by show resOf (f ds) = _; rw [qf]; rfl) hg hdb he hpl
      | fr l => exact ef_call (arg := fun y : { l : List D // l.length = n } => y.1) ⟨ds, hl⟩ F.cal hr h1 (by show notBad (f ds); rw [qf]; trivial) (by show resOf (f ds) = _; rw [qf]; rfl) hg hdb he hpl
    | er z => exact ex_call (arg := fun y : { l : List D // l.length = n } => y.1) ⟨ds, hl⟩ F hr h1 (by show notBad (f ds); rw [qf]; trivial) (by show resOf (f ds) = _; rw [qf]; rfl) hg hdb he hpl
    | bad => trivial
  · trivial

/-! ### a call with one's own lists among the arguments -/
def Tupl (G1 G2 : Hp) : Prop := ∀ a xs, G1 a = some (.tup xs) → G2 a = some (.tup xs)
end
section
variable {K : PySem.W.Frag} {G1 G2 : Hp}
mutual
theorem Rep.noL (h : Tupl G1 G2) : ∀ (d : D) {v : V}, d.noL = true → Rep K G1 v d → Rep K G2 v d
  | .at w, v, _, r => by cases r; exact .at _
  | .tup ds, v, o, r => by
    cases r with
    | tup s r => exact .tup (h _ _ s) (Reps.noL h ds o r)
  | .lst _, _, o, _ => by cases o
  | .exc _, _, o, _ => by cases o
  | .obj _ _ _, _, o, _ => by cases o
  | .dct, _, o, _ => by cases o
  | .any, _, o, _ => by cases o
theorem Reps.noL (h : Tupl G1 G2) : ∀ (ds : List D) {vs : List V}, D.noLs ds = true → Reps K G1 vs ds → Reps K G2 vs ds
  | [], _, _, r => by cases r; exact .nil
  | d :: ds, _, o, r => by
    cases r with
    | cons r rs =>
      have o' : (D.noL d && D.noLs ds) = true := o
      rw [Bool.and_eq_true] at o'
      exact .cons (Rep.noL h d o'.1 r) (Reps.noL h ds o'.2 rs)
end
end
section
variable {X : Cx} {C : Ctx} {ρ : Rho} {e a b c : Expr} {es : List Expr} {m ma mb mc : MX} {d : D} {ds : List D} {pos p : Pos} {t : Fr → R Bool}
/-- what is seen, and one's own -/
def visA (C : Ctx) (o : List Addr) (H : Hp) : Hp := fun b => if b ∈ o then H b else vis C o H b
theorem visA_of {C : Ctx} {o : List Addr} {H : Hp} (g : Same C.G C.H0) (s : Same C.H0 H) : Same (vis C o H) (visA C o H) := fun b x h => by
  unfold visA
  split
  · exact vis_in g s _ _ h
  · exact h
theorem visA_in {C : Ctx} {o : List Addr} {H : Hp} (g : Same C.G C.H0) (s : Same C.H0 H) : Same (visA C o H) H := fun b x h => by
  unfold visA at h
  split at h
  · exact h
  · exact vis_in g s _ _ h
theorem visA_same {C : Ctx} {o : List Addr} {H H' : Hp} (s : Same H H') : Same (visA C o H) (visA C o H') := fun b x h => by
  unfold visA at h ⊢
  split at h
  · rename_i q; rw [if_pos q]; exact s _ _ h
  · rename_i q; rw [if_neg q]; exact vis_same s _ _ h
/-- an argument list with one's own lists -/
def EV (X : Cx) (C : Ctx) (ρ : Rho) (es : List Expr) (ds : List D) : Prop :=
  ∀ σ H, SRel X.K C H σ ρ → ∀ Q : List V → Hp → Prop, (∀ vs H', Same H H' → Reps X.K (visA C (ows ρ) H') vs ds → Q vs H') → wpA X es σ H Q
structure VM (X : Cx) (es : List Expr) (ma : Fr → R (List D)) : Prop where
  run : ∀ C ρ ds, ma (frOf ρ) = .ok ds → EV X C ρ es ds ∧ ds.length = es.length
instance {X : Cx} {es : List Expr} {ma : Fr → R (List D)} : CoeFun (VM X es ma) fun _ => ∀ C ρ ds, ma (frOf ρ) = .ok ds → EV X C ρ es ds ∧ ds.length = es.length := ⟨fun h => h.run⟩
theorem vm_nil : VM X [] aNil := .mk fun C ρ ds q => by cases q; exact ⟨fun σ H S Q q => wpA_of pa_nil (q [] H (Same.refl H) .nil), rfl⟩
theorem ev_cons {d : D} (h : EE X C ρ e d) (hr : EV X C ρ es ds) (hs : starEach (e :: es) X.env = (false, eval e X.env) :: starEach es X.env := by exact se_of rfl) : EV X C ρ (e :: es) (d :: ds) := fun σ H S Q q =>
  wpA_of (pa_cons pe_wp pa_wp hs) (h σ H S _ fun v H1 s1 r1 => hr σ H1 (S.same s1) _ fun vs H2 s2 r2 => q (v :: vs) H2 (s1.trans s2) (.cons (Rep.mono (visA_same s2) _ (Rep.mono (visA_of S.gh (S.same s1).hh) _ r1)) r2))
theorem vm_cons {mr : Fr → R (List D)} (h : EM X e m) (hr : VM X es mr) (hs : starEach (e :: es) X.env = (false, eval e X.env) :: starEach es X.env := by exact se_of rfl) : VM X (e :: es) (aCons m mr) := .mk fun C ρ ds q => by
  obtain ⟨d, ds', q1, q2, rfl⟩ := consR_ok q
  exact ⟨ev_cons (h.ee q1) (hr C ρ _ q2).1 hs, congrArg (· + 1) (hr C ρ _ q2).2⟩
/-- a name, perhaps of a list of one's own -/
theorem vm_var (i : Nat) {x : Str} {mr : Fr → R (List D)} (hr : VM X es mr) (hN : X.N[i]? = some x := by rfl) (hv : Vis X.env.scope x := by first | exact Or.inl rfl | exact Or.inr (Or.inl rfl) | exact Or.inr (Or.inr rfl))
    (hd : (x == ("__debug__" : Str)) = false := by decide) (hcd : (x == ("__classdict__" : Str)) = false := by decide) (hs : starEach (.Name x p :: es) X.env = (false, eval (.Name x p) X.env) :: starEach es X.env := by exact se_of rfl) : VM X (.Name x p :: es) (lCons (eVar i) mr) := .mk fun C ρ ds q => by
  obtain ⟨d, ds', q1, q2, rfl⟩ := consR_ok q
  refine ⟨?_, congrArg (· + 1) (hr C ρ _ q2).2⟩
  unfold eVar at q1
  split at q1
  · rename_i d' h
    cases q1
    exact ev_cons (ee_var i hN (nth_im h) hv hd hcd) (hr C ρ _ q2).1 hs
  · rename_i l h
    cases q1
    obtain ⟨a, h⟩ := nth_ow h
    intro σ H S Q q
    obtain ⟨h1, xs, h2, h3⟩ := S.ow i a l h
    refine wpA_of (pa_cons (pe_var hN hv hd hcd) pa_wp hs) ⟨_, h1, (hr C ρ _ q2).1 σ H S _ fun vs H2 s2 r2 => q (.ref a :: vs) H2 s2 (.cons (.lst (.inl (.inl ?_)) (Reps.mono (visA_same s2) _ (Reps.mono (visA_of S.gh S.hh) _ h3))) r2)⟩
    unfold visA
    rw [if_pos (mem_ows h rfl)]
    exact s2 _ _ h2
  · cases q1
/-- tuples that a def has handed back -/
theorem tupl_back {σ : L2.St} {H1 H2 : Hp} (S1 : SRel X.K C H1 σ ρ) (s : Same H1 H2) (l : List Addr) (hl : ∀ a ∈ l, H1 a = none ∧ ∃ xs, H2 a = some (.lst xs)) : Tupl (vis ⟨H1, visA C (ows ρ) H1, []⟩ l H2) (vis C (l ++ ows ρ) H2) := by
  have go : ∀ (a : Addr) (o : HO), (∀ xs, o ≠ .lst xs) → (∀ xs, o ≠ .dT xs) → (∀ k xs, ¬ GForm X.K k xs o) → vis ⟨H1, visA C (ows ρ) H1, []⟩ l H2 a = some o → vis C (l ++ ows ρ) H2 a = some o := fun a o n1 n2 n3 h => by
    unfold vis at h
    split at h
    · rename_i q
      have q' : (H1 a).isSome = true := q
      have nl : a ∉ l := fun z => by rw [(hl a z).1] at q'; cases q'
      by_cases ht : atT (H1 a) = true
      · have h0 : Ctx.see ⟨H1, visA C (ows ρ) H1, []⟩ a = some o := h
        unfold Ctx.see at h0
        rw [if_pos (show atT ((⟨H1, visA C (ows ρ) H1, []⟩ : Ctx).H0 a) = true from ht)] at h0
        have h1 : H1 a = some o := h0
        obtain ⟨xs, e⟩ := atT_some ht
        rw [e] at h1 ht
        cases h1
        exact vis_at_tup (S1.hh.trans s) (s _ _ e) ht
      have h' : visA C (ows ρ) H1 a = some o := by
        have h0 : Ctx.see ⟨H1, visA C (ows ρ) H1, []⟩ a = some o := h
        unfold Ctx.see at h0
        rw [if_neg (show ¬ atT ((⟨H1, visA C (ows ρ) H1, []⟩ : Ctx).H0 a) = true from ht)] at h0
        exact h0
      unfold visA at h'
      split at h'
      · rename_i m
        obtain ⟨en, hm, ho⟩ := List.mem_flatMap.mp m
        obtain ⟨i, hi⟩ := List.getElem?_of_mem hm
        cases en with
        | no => cases ho
        | im _ => cases ho
        | ow b ds =>
          have ho := List.mem_singleton.mp ho
          subst ho
          obtain ⟨_, xs, h2, _⟩ := S1.ow i _ _ hi
          rw [h2] at h'
          cases h'
          exact absurd rfl (n1 xs)
        | od b ds =>
          have ho := List.mem_singleton.mp ho
          subst ho
          obtain ⟨_, xs, h2, _⟩ := S1.od i _ _ hi
          rw [h2] at h'
          cases h'
          exact absurd rfl (n2 xs)
        | ot as t =>
          obtain ⟨_, _, h2⟩ := S1.ot i _ _ hi
          obtain ⟨xs, h3⟩ := RepT.isl _ h2 _ ho
          rw [h3] at h'
          cases h'
          exact absurd rfl (n1 xs)
        | og b k ds =>
          have ho := List.mem_singleton.mp ho
          subst ho
          obtain ⟨_, xs, o', h2, h3, _⟩ := S1.og i _ _ _ hi
          rw [h2] at h'
          cases h'
          exact (n3 k xs h3).elim
      · have h2 := vis_same (C := C) (o := ows ρ) s _ _ h'
        unfold vis at h2 ⊢
        split at h2
        · rename_i q2; rw [if_pos q2]; exact h2
        · rename_i q2
          split at h2
          · cases h2
          · rename_i q3
            rw [if_neg q2, if_neg]
            · exact h2
            · intro z
              obtain ⟨z, zt⟩ := z
              rcases z with z | z
              · rcases List.mem_append.mp z with z | z
                · exact nl z
                · exact q3 ⟨.inl z, zt⟩
              · exact q3 ⟨.inr z, zt⟩
    · rename_i q
      have q' : H1 a = none := by
        have q2 : ¬ (H1 a).isSome = true := q
        cases e : H1 a with
        | none => rfl
        | some u => rw [e] at q2; exact absurd rfl q2
      split at h
      · cases h
      · rename_i nl
        have n0 : C.H0 a = none := S1.hh.free q'
        unfold vis
        rw [n0, if_neg (by simp), if_neg]
        · exact h
        · intro z
          obtain ⟨z, zt⟩ := z
          rcases z with z | z
          · rcases List.mem_append.mp z with z | z
            · exact nl ⟨.inl z, zt⟩
            · exact (S1.fr a (.inl z)).2 q'
          · exact (S1.fr a (.inr z)).2 q'
  intro a xs h
  exact go a _ (fun _ => by intro z; cases z) (fun _ => by intro z; cases z) (fun _ _ z => z.atT _ rfl) h
def retN : R Ret → R RV
  | .ok (.im d) => if d.noL = true then .ok (.im d) else .bad
  | .ok (.fr ds) => if D.noLs ds = true then .ok (.fr ds) else .bad
  | .er n => .er n
  | .bad => .bad
def callN (f : List D → R Ret) (l : R (List D)) : R RV := match l with
  | .ok ds => retN (f ds)
  | _ => .bad
def eCallO (f : List D → R Ret) (ma : Fr → R (List D)) : MX := fun E => callN f (ma E)
variable {k n : Nat} {x : Str} {ps : List Str} {f : List D → R Ret}
theorem em_callO {mr : Fr → R (List D)} (F : CalX X.prog X.w X.K X.mg X.base k x ps (spM X.K n f)) (hr : Room k X.A) (h : VM X (e :: es) mr) (hn : (e :: es).length = n := by rfl) (hg : Gl X x := by rfl) (hdb : (x == ("__debug__" : Str)) = false := by decide)
    (he : starEach (e :: es) X.env = (false, eval e X.env) :: starEach es X.env := by exact se_of rfl) (hpl : (backTo pos (starEach es X.env)).any (·.1) = false := by rfl) : EM X (.Call (.Name x p) (e :: es) [] pos) (eCallO f mr) := .mk fun C ρ => by
  unfold eCallO callN
  split
  · rename_i ds q
    obtain ⟨h1, h2⟩ := h C ρ ds q
    have hl : ds.length = n := h2.trans hn
    have run : ∀ (Q : VK) (σ : L2.St) (H : Hp), SRel X.K C H σ ρ → ∀ r, f ds = .ok r → (∀ H1 v H2, Same H H1 → SRel X.K C H1 σ ρ → Same H1 H2 → RetR X.K ⟨H1, visA C (ows ρ) H1, []⟩ H2 v r → Q v H2) → wpE X (.Call (.Name x p) (e :: es) [] pos) σ H Q := by
      intro Q σ H S r qf q
      obtain ⟨g, fd, CX, hm, hk, hb, F, hx⟩ := F.cal.ex
      refine wpE_of (pe_call (dvs := []) F hr hg hm hk hb .nil (hx X rfl rfl) pa_wp hdb he hpl) (h1 σ H S _ fun vs H1 s1 r1 => ?_)
      have S1 := S.same s1
      rw [List.append_nil]
      refine ⟨visA C (ows ρ) H1, ⟨ds, hl⟩, visA_in S1.gh S1.hh, r1, (by show notBad (f ds); rw [qf]; trivial), fun r' v H2 hr2 s2 rr => ?_, fun z c H2 hr2 => ?_⟩
      · have hr3 : resOf (f ds) = .ok r' := hr2
        rw [qf] at hr3
        cases hr3
        exact q H1 v H2 s1 S1 s2 rr
      · have hr3 : resOf (f ds) = .er z := hr2
        rw [qf] at hr3
        cases hr3
    cases qf : f ds with
    | ok r =>
      cases r with
      | im d =>
        show OKV X C ρ _ (if d.noL = true then _ else _)
        split
        · rename_i nl
          intro σ H S Q q
          refine run Q σ H S _ qf fun H1 v H2 s1 S1 s2 rr => q v H2 (s1.trans s2) (Rep.noL ?_ d nl rr)
          have z := tupl_back S1 s2 [] (fun _ z => absurd z List.not_mem_nil)
          exact z
        · trivial
      | fr l =>
        show OKV X C ρ _ (if D.noLs l = true then _ else _)
        split
        · rename_i nl
          intro σ H S Q q
          refine run Q σ H S _ qf fun H1 v H2 s1 S1 s2 rr => ?_
          obtain ⟨a, xs, rfl, n0, hl2, rs⟩ := rr
          have n1 : H1 a = none := n0
          refine q a xs H2 (s1.free n1) (s1.trans s2) hl2 (Reps.noL ?_ l nl rs)
          refine tupl_back S1 s2 [a] fun b hb => ?_
          have e : b = a := by simpa using hb
          rw [e]
          exact ⟨n1, _, hl2⟩
        · trivial
    | er z =>
      intro σ H S W tk hW Q pins s J
      obtain ⟨g, fd, hm, hk, hb, ok⟩ := F.ex
      refine wpAny_Call_Name_kw (ld_glob J hg hm ?_ hdb)
      have args := h1 σ H S (fun vs H1 => spM X.K n f vs H1 Q fun cls d H2 => W cls d σ H2) (fun vs H1 s1 r1 => ⟨visA C (ows ρ) H1, ⟨ds, hl⟩, visA_in S.gh (S.same s1).hh, r1, (by show notBad (f ds); rw [qf]; trivial), (fun r v H2 q => by
        have q' : resOf (f ds) = .ok r := q
        rw [qf] at q'
        cases q'), fun n' c' H2 q k s2 => by
        have q' : resOf (f ds) = .er n' := q
        rw [qf] at q'
        cases q'
        exact hW c' H2 k (s1.trans s2)⟩) pos pins s J
      refine PySem.W.callWith_K (h₀ := X.base) J.ok.mod.kin hk (thn args fun us s1 ⟨vs, H1, J1, rv, q⟩ => ⟨J1.kIn, ?_⟩) he hpl
      have hl : (us ++ []).length = ps.length := by rw [List.append_nil, ← rv.length]; exact ok.len _ _ _ _ q
      have rv' : Vals vs (us ++ []) := by rw [List.append_nil]; exact rv
      refine wpAny_call (codeAny_mono (ok.run X.A X.stack s1 H1 ⟨us, []⟩ (us ++ []) vs Q _ hr J1.env0 (hb s1 us J1.kIn hl) rv' q) fun t s' ht => ?_)
      cases t with
      | error z => exact tk _ _ (XE.of_call J1 (fun _ _ _ w => w) ht)
      | ok fl =>
        cases fl with
        | ret u => exact J1.after ht
        | next => exact ht.elim
        | brk => exact ht.elim
        | cont => exact ht.elim
    | bad => trivial
  · trivial

/-! ### defs with one argument that may be left out -/
def nonD (l : R (List D)) : R (List D) := match l with
  | .ok ds => .ok (ds ++ [.non])
  | _ => .bad
def imOnly : R RV → R RV
  | .ok (.im d) => .ok (.im d)
  | _ => .bad
def eCallD (f : List D → R Ret) (ma : Fr → R (List D)) : MX := fun E => imOnly (callR f (nonD (ma E)))
theorem callR_im {f : List D → R Ret} {l : R (List D)} {d : D} (h : callR f l = .ok (.im d)) : ∃ ds, l = .ok ds ∧ f ds = .ok (.im d) := by
  unfold callR at h
  split at h
  · rename_i ds
    refine ⟨ds, rfl, ?_⟩
    cases q : f ds with
    | ok r => rw [q] at h; cases r <;> cases h; rfl
    | er z => rw [q] at h; cases h
    | bad => rw [q] at h; cases h
  · cases h
theorem imOnly_okv {r : R RV} (h : ∀ d, r = .ok (.im d) → EE X C ρ e d) : OKV X C ρ e (imOnly r) := by
  rcases r with (d | l | l) | z | _
  · exact h d rfl
  · trivial
  · trivial
  · trivial
  · trivial
theorem em_callD {z : Str} {mr : Fr → R (List D)} (F : CalN X.prog X.w X.K X.mg X.base k x ps z (spM X.K n f)) (hr : Room k X.A) (h : AM X (e :: es) mr) (hn : (e :: es).length + 1 = n := by rfl) (hg : Gl X x := by rfl) (hdb : (x == ("__debug__" : Str)) = false := by decide)
    (he : starEach (e :: es) X.env = (false, eval e X.env) :: starEach es X.env := by exact se_of rfl) (hpl : (backTo pos (starEach es X.env)).any (·.1) = false := by rfl) : EM X (.Call (.Name x p) (e :: es) [] pos) (eCallD f mr) := .mk fun C ρ => by
  refine imOnly_okv fun d q => ?_
  obtain ⟨ds, q1, qf⟩ := callR_im q
  unfold nonD at q1
  split at q1
  · rename_i l q2
    cases q1
    obtain ⟨h1, h2⟩ := h C ρ l q2
    exact ee_callN (arg := fun y : { l : List D // l.length = n } => y.1) ⟨l ++ [.non], by rw [List.length_append, h2]; exact hn⟩ F hr h1 rfl (by show notBad (f _); rw [qf]; trivial) (by show resOf (f _) = _; rw [qf]; rfl) hg hdb he hpl
  · cases q1
def snocR (l : R (List D)) (d : R D) : R (List D) := match l with
  | .ok ds => (match d with
    | .ok x => .ok (ds ++ [x])
    | _ => .bad)
  | _ => .bad
def eCallK (f : List D → R Ret) (ma : Fr → R (List D)) (mk : MX) : MX := fun E => imOnly (callR f (snocR (ma E) (toD (mk E))))
theorem em_callK {z : Str} {ke : Expr} {kp : Pos} {mk : MX} {mr : Fr → R (List D)} (F : CalN X.prog X.w X.K X.mg X.base k x ps z (spM X.K n f)) (hr : Room k X.A) (h : AM X (e :: es) mr) (hke : EM X ke mk) (hn : (e :: es).length + 1 = n := by rfl) (hps : (e :: es).length = ps.length - 1 := by rfl) (hg : Gl X x := by rfl)
    (hdb : (x == ("__debug__" : Str)) = false := by decide) (hall : (backToKw pos (keywordEach [⟨some z, ke, kp⟩] X.env)).all (·.1.isSome) = true := by rfl) (hks : (backToKw pos (keywordEach [⟨some z, ke, kp⟩] X.env)).filterMap (·.1) = [z] := by rfl)
    (he : starEach (e :: es) X.env = (false, eval e X.env) :: starEach es X.env := by exact se_of rfl) (hpl : ((backTo pos (starEach (e :: es) X.env)).any (·.1) || (backToKw pos (keywordEach [⟨some z, ke, kp⟩] X.env)).any (·.1.isNone)) = false := by rfl) :
    EM X (.Call (.Name x p) (e :: es) [⟨some z, ke, kp⟩] pos) (eCallK f mr mk) := .mk fun C ρ => by
  refine imOnly_okv fun d q => ?_
  obtain ⟨ds, q1, qf⟩ := callR_im q
  unfold snocR at q1
  split at q1
  · rename_i l q2
    split at q1
    · rename_i y q3
      cases q1
      obtain ⟨h1, h2⟩ := h C ρ l q2
      exact ee_callK (arg := fun y : { l : List D // l.length = n } => y.1) ⟨l ++ [y], by rw [List.length_append, h2]; exact hn⟩ F hr h1 (hke.ee q3) (h2.trans hps) rfl (by show notBad (f _); rw [qf]; trivial) (by show resOf (f _) = _; rw [qf]; rfl) hg hdb hall hks he hpl
    · cases q1
  · cases q1
end
end DL

namespace DL
open PySem PySem.Spec PyProof.Rows L2
section
variable {X : Cx} {C : Ctx} {ρ : Rho} {e a b c tg iter : Expr} {es : List Expr} {m ma mb mc : MX} {d : D} {ds : List D} {pos p : Pos} {t : Fr → R Bool} {P : Post} {sts : List Stmt} {f g : Fr → R Bool}
/-! ### what is walked -/
structure IM (X : Cx) (tg iter : Expr) (mi : Fr → R (List D)) : Prop where
  run : ∀ C ρ ds, mi (frOf ρ) = .ok ds → EI X C ρ tg iter ds
instance {X : Cx} {tg iter : Expr} {mi : Fr → R (List D)} : CoeFun (IM X tg iter mi) fun _ => ∀ C ρ ds, mi (frOf ρ) = .ok ds → EI X C ρ tg iter ds := ⟨fun h => h.run⟩
def itR : R RV → R (List D)
  | .ok (.im (.at (.str z))) => .ok (signsD z)
  | .ok (.im (.tup ds)) => .ok ds
  | .ok (.im (.lst ds)) => .ok ds
  | .ok (.fr ds) => .ok ds
  | _ => .bad
def iVal (m : MX) : Fr → R (List D) := fun E => itR (m E)
theorem im_val (h : EM X e m) : IM X tg e (iVal m) := .mk fun C ρ ds q => by
  have h' := h C ρ
  unfold iVal at q
  revert h' q
  generalize m (frOf ρ) = r
  intro q h'
  unfold itR at q
  split at q
  · cases q; exact ei_str h'
  · cases q; exact ei_tup h'
  · cases q; exact ei_list h'
  · cases q; exact ei_list (EF.ee h')
  · cases q
def rng1 : R D → R (List D)
  | .ok (.at (.int n)) => if -(2 ^ 62) ≤ n ∧ n < 2 ^ 62 then .ok (rngD 0 n.toNat) else .bad
  | _ => .bad
def iRange1 (m : MX) : Fr → R (List D) := fun E => rng1 (toD (m E))
theorem im_range1 (hm : X.mg "range" = none) (h : EM X e m) (hg : Gl X "range" := by rfl) (hs : starEach [e] X.env = [(false, eval e X.env)] := by rfl) : IM X tg (.Call (.Name "range" p) [e] [] pos) (iRange1 m) := .mk fun C ρ ds q => by
  unfold iRange1 rng1 at q
  split at q
  · rename_i n q1
    split at q
    · rename_i hn
      cases q
      exact ei_range1 hm (h.ee q1) hn.1 hn.2 hg hs
    · cases q
  · cases q
def rng2 : R D → R D → R (List D)
  | .ok (.at (.int i)), .ok (.at (.int j)) => if -(2 ^ 62) ≤ i ∧ i < 2 ^ 62 ∧ -(2 ^ 62) ≤ j ∧ j < 2 ^ 62 then .ok (rngD i (j - i).toNat) else .bad
  | _, _ => .bad
def iRange2 (ma mb : MX) : Fr → R (List D) := fun E => rng2 (toD (ma E)) (toD (mb E))
theorem im_range2 (hm : X.mg "range" = none) (ha : EM X a ma) (hb : EM X b mb) (hg : Gl X "range" := by rfl) (hs : starEach [a, b] X.env = [(false, eval a X.env), (false, eval b X.env)] := by rfl) (hs2 : starEach [b] X.env = [(false, eval b X.env)] := by rfl) : IM X tg (.Call (.Name "range" p) [a, b] [] pos) (iRange2 ma mb) := .mk fun C ρ ds q => by
  unfold iRange2 rng2 at q
  split at q
  · rename_i i j q1 q2
    split at q
    · rename_i hn
      cases q
      exact ei_range2 hm (ha.ee q1) (hb.ee q2) hn hg hs hs2
    · cases q
  · cases q
open Classical in
noncomputable def rng3 : R D → R D → R D → R (List D)
  | .ok (.at (.int i)), .ok (.at (.int j)), .ok (.at (.int c)) => if RgC i j c (Builtin.Range.rangeSize i j c).toNat then .ok (rngDc i c (Builtin.Range.rangeSize i j c).toNat) else .bad
  | _, _, _ => .bad
open Classical in
theorem rng3_ok {i j c : Int} {n : Nat} (h : RgC i j c n) : rng3 (.ok (.int i)) (.ok (.int j)) (.ok (.int c)) = .ok (rngDc i c n) := by
  have e : (Builtin.Range.rangeSize i j c).toNat = n := by have := h.2.2.2; omega
  show (if RgC i j c (Builtin.Range.rangeSize i j c).toNat then _ else _) = _
  rw [e]
  exact if_pos h
noncomputable def iRange3 (ma mb mc : MX) : Fr → R (List D) := fun E => rng3 (toD (ma E)) (toD (mb E)) (toD (mc E))
theorem im_range3 (hm : X.mg "range" = none) (ha : EM X a ma) (hb : EM X b mb) (hc : EM X c mc) (hg : Gl X "range" := by rfl) (hs : starEach [a, b, c] X.env = (false, eval a X.env) :: starEach [b, c] X.env := by exact se_of rfl) (hs2 : starEach [b, c] X.env = (false, eval b X.env) :: starEach [c] X.env := by exact se_of rfl)
    (hs3 : starEach [c] X.env = (false, eval c X.env) :: starEach [] X.env := by exact se_of rfl) (hpl : (backTo pos (starEach [b, c] X.env)).any (·.1) = false := by rfl) : IM X tg (.Call (.Name "range" p) [a, b, c] [] pos) (iRange3 ma mb mc) := .mk fun C ρ ds q => by
  unfold iRange3 rng3 at q
  split at q
  · rename_i i j k q1 q2 q3
    split at q
    · rename_i hn
      cases q
      exact ei_range3 hm (ha.ee q1) (hb.ee q2) (hc.ee q3) hn hg hs hs2 hs3 hpl
    · cases q
  · cases q
def zipR : R D → R D → R (List D)
  | .ok (.lst xs), .ok (.lst ys) => .ok (zipD xs ys)
  | .ok (.tup xs), .ok (.tup ys) => .ok (zipD xs ys)
  | _, _ => .bad
def iZip (ma mb : MX) : Fr → R (List D) := fun E => zipR (toD (ma E)) (toD (mb E))
theorem im_zip {elts : List Expr} {kk : Nat} {tpos : Pos} (hm : X.mg "zip" = none) (ha : EM X a ma) (hb : EM X b mb) (hg : Gl X "zip" := by rfl) (hs : starEach [a, b] X.env = (false, eval a X.env) :: starEach [b] X.env := by exact se_of rfl) (hs2 : starEach [b] X.env = (false, eval b X.env) :: starEach [] X.env := by exact se_of rfl)
    (hpl : (backTo pos (starEach [b] X.env)).any (·.1) = false := by rfl) : IM X (.Tuple elts kk tpos) (.Call (.Name "zip" p) [a, b] [] pos) (iZip ma mb) := .mk fun C ρ ds q => by
  unfold iZip zipR at q
  split at q
  · rename_i xs ys q1 q2
    cases q
    exact ei_zipL hm (ha.ee q1) (hb.ee q2) hg hs hs2 hpl
  · rename_i xs ys q1 q2
    cases q
    exact ei_zipT hm (ha.ee q1) (hb.ee q2) hg hs hs2 hpl
  · cases q

/-! ### targets -/
def setsF : Fr → List (Nat × D) → Fr
  | E, [] => E
  | E, (i, d) :: ss => setsF (setS E i (.im d)) ss
def setsR : Rho → List (Nat × D) → Rho
  | ρ, [] => ρ
  | ρ, (i, d) :: ss => setsR (ρ.set i (.im d)) ss
theorem frOf_sets : ∀ (ss : List (Nat × D)) (ρ : Rho), frOf (setsR ρ ss) = setsF (frOf ρ) ss
  | [], _ => rfl
  | (i, d) :: ss, ρ => by
    rw [setsR, setsF, frOf_sets ss, frOf_set]
    rfl
theorem setsR_app : ∀ (ss rs : List (Nat × D)) (ρ : Rho), setsR ρ (ss ++ rs) = setsR (setsR ρ ss) rs
  | [], _, _ => rfl
  | (i, d) :: ss, rs, ρ => by
    show setsR (ρ.set i (.im d)) (ss ++ rs) = _
    rw [setsR_app ss rs]
    rfl
structure GM (X : Cx) (tg : Expr) (g : D → R (List (Nat × D))) (L : List Nat) : Prop where
  run : ∀ C ρ d ss, g d = .ok ss → GT X C ρ tg d (setsR ρ ss) L ∧ ∀ q ∈ ss, q.1 ∈ L
instance {X : Cx} {tg : Expr} {g : D → R (List (Nat × D))} {L : List Nat} : CoeFun (GM X tg g L) fun _ => ∀ C ρ d ss, g d = .ok ss → GT X C ρ tg d (setsR ρ ss) L ∧ ∀ q ∈ ss, q.1 ∈ L := ⟨fun h => h.run⟩
structure GsM (X : Cx) (ts : List Expr) (gs : List D → R (List (Nat × D))) (L : List Nat) : Prop where
  run : ∀ C ρ ds ss, gs ds = .ok ss → GTs X C ρ ts ds (setsR ρ ss) L ∧ ds.length = ts.length ∧ ∀ q ∈ ss, q.1 ∈ L
instance {X : Cx} {ts : List Expr} {gs : List D → R (List (Nat × D))} {L : List Nat} : CoeFun (GsM X ts gs L) fun _ => ∀ C ρ ds ss, gs ds = .ok ss → GTs X C ρ ts ds (setsR ρ ss) L ∧ ds.length = ts.length ∧ ∀ q ∈ ss, q.1 ∈ L := ⟨fun h => h.run⟩
def gName (i : Nat) (d : D) : R (List (Nat × D)) := .ok [(i, d)]
def gNil (ds : List D) : R (List (Nat × D)) := match ds with
  | [] => .ok []
  | _ => .bad
def appR (x y : R (List (Nat × D))) : R (List (Nat × D)) := match x with
  | .ok xs => (match y with
    | .ok ys => .ok (xs ++ ys)
    | _ => .bad)
  | _ => .bad
def gCons (g : D → R (List (Nat × D))) (gs : List D → R (List (Nat × D))) (ds : List D) : R (List (Nat × D)) := match ds with
  | d :: ds => appR (g d) (gs ds)
  | [] => .bad
def gTup (gs : List D → R (List (Nat × D))) (d : D) : R (List (Nat × D)) := match d with
  | .tup ds => gs ds
  | .lst ds => gs ds
  | _ => .bad
theorem gm_name (i : Nat) {x : Str} (hN : X.N.Nodup) (hi : X.N[i]? = some x := by rfl) (hx : Loc X.env.scope x := by first | exact Or.inl rfl | exact Or.inr rfl) (hf : X.fn x = true ∨ X.env.scope.names.lookup x = some .local := by first | exact .inl rfl | exact .inr rfl) : GM X (.Name x pos) (gName i) [i] := .mk fun C ρ d ss q => by
  cases q
  exact ⟨gt_name i hN rfl hi hx hf, fun q hq => by rw [List.mem_singleton.mp hq]; simp⟩
theorem gsm_nil : GsM X [] gNil [] := .mk fun C ρ ds ss q => by
  unfold gNil at q
  split at q
  · cases q; exact ⟨gts_nil, rfl, fun q hq => by cases hq⟩
  · cases q
theorem gsm_cons {g : D → R (List (Nat × D))} {gs : List D → R (List (Nat × D))} {L L' : List Nat} {tgs : List Expr} (h1 : GM X tg g L) (h2 : GsM X tgs gs L') (hs : (assignEach (tg :: tgs) X.env).map (·.2) = assign tg X.env :: (assignEach tgs X.env).map (·.2) := by rfl) : GsM X (tg :: tgs) (gCons g gs) (L ++ L') := .mk fun C ρ ds ss q => by
  unfold gCons at q
  split at q
  · rename_i d ds
    unfold appR at q
    split at q
    · rename_i xs q1
      split at q
      · rename_i ys q2
        cases q
        obtain ⟨a1, a2⟩ := h1 C ρ d xs q1
        obtain ⟨b1, b2, b3⟩ := h2 C (setsR ρ xs) ds ys q2
        rw [setsR_app]
        exact ⟨gts_cons a1 b1 hs, congrArg (· + 1) b2, fun q hq => List.mem_append.mpr ((List.mem_append.mp hq).imp (a2 q) (b3 q))⟩
      · cases q
    · cases q
  · cases q
theorem gm_tup {gs : List D → R (List (Nat × D))} {kk : Nat} {L : List Nat} {tgs : List Expr} (h : GsM X tgs gs L) (hc : X.calm = true := by rfl) (hn : (assignEach tgs X.env).length = tgs.length := by rfl) (hst : (assignEach tgs X.env).findIdx? (·.1) = none := by rfl) : GM X (.Tuple tgs kk pos) (gTup gs) L := .mk fun C ρ d ss q => by
  unfold gTup at q
  split at q
  · obtain ⟨h1, h2, h3⟩ := h C ρ _ ss q
    exact ⟨gt_tup h1 hc (hn.trans h2.symm) hst, h3⟩
  · obtain ⟨h1, h2, h3⟩ := h C ρ _ ss q
    exact ⟨gt_lst h1 hc (hn.trans h2.symm) hst, h3⟩
  · cases q

/-! ### statements -/
inductive O where
  | nx (E : Fr)
  | rt (r : Ret)
  | bk (E : Fr)
  | ct (E : Fr)
  | er (n : Str) (E : Fr)
  | bad
def OkO (P : Post) : O → Prop
  | .nx E => ∀ ρ, frOf ρ = E → P.nx ρ
  | .rt r => P.rt r
  | .bk E => ∀ ρ, frOf ρ = E → P.bk ρ
  | .ct E => ∀ ρ, frOf ρ = E → P.ct ρ
  | .er n E => ∀ ρ, frOf ρ = E → P.er n ρ
  | .bad => False
structure SM (X : Cx) (st : Stmt) (f : Fr → O) : Prop where
  run : ∀ C ρ P, OkO P (f (frOf ρ)) → WS X C ρ st P
instance {X : Cx} {st : Stmt} {f : Fr → O} : CoeFun (SM X st f) fun _ => ∀ C ρ P, OkO P (f (frOf ρ)) → WS X C ρ st P := ⟨fun h => h.run⟩
structure BM (X : Cx) (sts : List Stmt) (f : Fr → O) : Prop where
  run : ∀ C ρ P, OkO P (f (frOf ρ)) → WP X C ρ sts P
instance {X : Cx} {sts : List Stmt} {f : Fr → O} : CoeFun (BM X sts f) fun _ => ∀ C ρ P, OkO P (f (frOf ρ)) → WP X C ρ sts P := ⟨fun h => h.run⟩
def O.then (o : O) (g : Fr → O) : O := match o with
  | .nx E => g E
  | o => o
def sq (f g : Fr → O) : Fr → O := fun E => (f E).then g
theorem bm_nil : BM X [] .nx := .mk fun C ρ P h => wp_nil (h ρ rfl)
theorem bm_cons {st : Stmt} {f g : Fr → O} (h : SM X st f) (k : BM X sts g) : BM X (st :: sts) (sq f g) := .mk fun C ρ P ok => wp_cons (h C ρ _ (by
  unfold sq at ok
  revert ok
  generalize f (frOf ρ) = o
  intro ok
  cases o with
  | nx E => exact fun ρ' e => k C ρ' P (by rw [e]; exact ok)
  | rt r => exact ok
  | bk E => exact ok
  | ct E => exact ok
  | er n E => exact ok
  | bad => exact ok))
def frz (E : Fr) (i : Nat) : Fr := match nthS E i with
  | .ow ds => setS E i (.im (.lst ds))
  | .ot d => setS E i (.im d)
  | _ => E
theorem nth_ot {ρ : Rho} {i : Nat} {d : D} (h : nthS (frOf ρ) i = .ot d) : ∃ as, ρ[i]? = some (.ot as d) := by
  rw [frOf_nth] at h
  cases q : ρ[i]? with
  | none => rw [q] at h; cases h
  | some e =>
    rw [q] at h
    cases e with
    | ot as d' => cases h; exact ⟨as, rfl⟩
    | _ => cases h
theorem wp_thaw {X : Cx} {C : Ctx} {ρ ρ' : Rho} {sts : List Stmt} {P : Post} {d : D} {as : List Addr} (i : Nat) (hr : ρ[i]? = some (.ot as d)) (hρ : ρ.set i (.im d) = ρ') (h : WP X C ρ' sts P) : WP X C ρ sts P := fun σ H D S L => by
  subst hρ
  obtain ⟨S2, s2⟩ := S.thaw i hr
  exact h σ H D S2 (L.later s2)
def frzs (E : Fr) : List Nat → Fr
  | [] => E
  | i :: is => frzs (frz E i) is
theorem bm_frz1 {f : Fr → O} (i : Nat) (h : BM X sts f) : BM X sts (fun E => f (frz E i)) := .mk fun C ρ P ok => by
  have ok' : OkO P (f (frz (frOf ρ) i)) := ok
  unfold frz at ok'
  split at ok'
  · rename_i ds q
    obtain ⟨a, hr⟩ := nth_ow q
    exact wp_freeze i hr rfl (h C _ P (by rw [frOf_set]; exact ok'))
  · rename_i d q
    obtain ⟨as, hr⟩ := nth_ot q
    exact wp_thaw i hr rfl (h C _ P (by rw [frOf_set]; exact ok'))
  · exact h C ρ P ok'
theorem bm_frz {f : Fr → O} (h : BM X sts f) : ∀ is : List Nat, BM X sts (fun E => f (frzs E is))
  | [] => h
  | i :: is => bm_frz1 i (bm_frz h is)
def sPass : Fr → O := .nx
def sBreak : Fr → O := .bk
def sContinue : Fr → O := .ct
theorem sm_pass : SM X (.Pass pos) sPass := .mk fun C ρ P ok => ws_pass (ok ρ rfl)
theorem sm_break : SM X (.Break pos) sBreak := .mk fun C ρ P ok => ws_break (ok ρ rfl)
theorem sm_continue : SM X (.Continue pos) sContinue := .mk fun C ρ P ok => ws_continue (ok ρ rfl)
def onV (r : R RV) (E : Fr) (k : RV → O) : O := match r with
  | .ok v => k v
  | .er n => .er n E
  | .bad => .bad
def sDrop (m : MX) : Fr → O := fun E => onV (m E) E fun v => match v with
  | .ro _ => .bad
  | _ => .nx E
theorem sm_drop (h : EM X e m) (hs : swapsWith e none pos.line X.env = pure false := by rfl) : SM X (.Expr e pos) (sDrop m) := .mk fun C ρ P ok => by
  have h' := h C ρ
  unfold sDrop at ok
  revert h' ok
  generalize m (frOf ρ) = r
  intro ok h'
  rcases r with (d | ds | ds) | n | _
  · exact ws_drop h' (ok ρ rfl) hs
  · exact ws_drop (EF.ee h') (ok ρ rfl) hs
  · exact ok.elim
  · exact ex_drop h' (ok ρ rfl) hs
  · exact ok.elim
def sRet (m : MX) : Fr → O := fun E => onV (m E) E fun v => match v with
  | .im d => .rt (.im d)
  | .fr ds => .rt (.fr ds)
  | .ro _ => .bad
theorem sm_ret (h : EM X e m) : SM X (.Return (some e) pos) (sRet m) := .mk fun C ρ P ok => by
  have h' := h C ρ
  unfold sRet at ok
  revert h' ok
  generalize m (frOf ρ) = r
  intro ok h'
  rcases r with (d | ds | ds) | n | _
  · exact ws_ret h' ok
  · exact ws_retF h' ok
  · exact ok.elim
  · exact ex_ret h' (ok ρ rfl)
  · exact ok.elim
/-- return x, x perhaps a list of one's own -/
def sRetV (i : Nat) : Fr → O := fun E => match nthS E i with
  | .im d => .rt (.im d)
  | .ow ds => .rt (.fr ds)
  | _ => .bad
theorem sm_retV (i : Nat) {x : Str} {p1 : Pos} (hN : X.N[i]? = some x := by rfl) (hv : Vis X.env.scope x := by first | exact Or.inl rfl | exact Or.inr (Or.inl rfl) | exact Or.inr (Or.inr rfl))
    (hd : (x == ("__debug__" : Str)) = false := by decide) (hcd : (x == ("__classdict__" : Str)) = false := by decide) : SM X (.Return (some (.Name x p1)) pos) (sRetV i) := .mk fun C ρ P ok => by
  unfold sRetV at ok
  split at ok
  · rename_i d q
    exact ws_ret (ee_var i hN (nth_im q) hv hd hcd) ok
  · rename_i ds q
    obtain ⟨a, hr⟩ := nth_ow q
    exact ws_retO i hr ok hN hv hd hcd
  · exact ok.elim
def sRetN : Fr → O := fun _ => .rt (.im .non)
theorem sm_retN : SM X (.Return none pos) sRetN := .mk fun C ρ P ok => ws_retN ok
def ifO (b : R Bool) (x y : O) : O := match b with
  | .ok true => x
  | .ok false => y
  | _ => .bad
def sIf (t : Fr → R Bool) (f g : Fr → O) : Fr → O := fun E => ifO (t E) (f E) (g E)
theorem sm_if {ts us : List Stmt} {f g : Fr → O} (h : TM X c t) (h1 : BM X ts f) (h2 : BM X us g) : SM X (.If c ts us pos) (sIf t f g) := .mk fun C ρ P ok => by
  unfold sIf ifO at ok
  split at ok
  · rename_i q
    exact ws_if (h C ρ _ q) (fun _ => h1 C ρ P ok) fun z => nomatch z
  · rename_i q
    exact ws_if (h C ρ _ q) (fun z => nomatch z) fun _ => h2 C ρ P ok
  · exact ok.elim
/-! assignments -/
theorem ws_setF' (i : Nat) {x : Str} {p' : Pos} (he : EF X C ρ e ds) (h : ∀ a, P.nx (ρ.set i (.ow a ds))) (hN : X.N.Nodup) (hi : X.N[i]? = some x := by rfl) (hx : Loc X.env.scope x := by first | exact Or.inl rfl | exact Or.inr rfl) (hs : swapsWith e (some (.Name x p')) pos.line X.env = pure false := by rfl)
    (hf : X.fn x = true ∨ X.env.scope.names.lookup x = some .local := by first | exact .inl rfl | exact .inr rfl) : WS X C ρ (.Assign [.Name x p'] e pos) P := fun σ H D S L => by
  refine wpS_of (ps_set hN hi hx pe_wp hs hf) (he σ H S _ fun a xs H1 n s1 l r1 => ?_)
  by_cases hl : i < ρ.length
  · obtain ⟨S2, s2⟩ := S.setOw i hl n s1 l r1
    exact L.nx _ _ H1 (h a) S2 s2
  · have h' := h a
    rw [set_oob hl] at h'
    show D.nx (σ.set i (some (.ref a))) H1
    rw [set_oobS (by rw [S.len]; exact hl)]
    exact L.nx _ _ H1 h' (S.same s1) (vis_same s1)
/-- x = e : data -/
def sSet (i : Nat) (m : MX) : Fr → O := fun E => onV (m E) E fun v => match v with
  | .im d => .nx (setS E i (.im d))
  | .fr ds => .nx (setS E i (.im (.lst ds)))
  | .ro _ => .bad
/-- .. a new list becomes one's own -/
def sSetO (i : Nat) (m : MX) : Fr → O := fun E => onV (m E) E fun v => match v with
  | .im d => .nx (setS E i (.im d))
  | .fr ds => .nx (setS E i (.ow ds))
  | .ro _ => .bad
theorem sm_set (i : Nat) {x : Str} {p' : Pos} (h : EM X e m) (hN : X.N.Nodup) (hi : X.N[i]? = some x := by rfl) (hx : Loc X.env.scope x := by first | exact Or.inl rfl | exact Or.inr rfl) (hs : swapsWith e (some (.Name x p')) pos.line X.env = pure false := by rfl)
    (hf : X.fn x = true ∨ X.env.scope.names.lookup x = some .local := by first | exact .inl rfl | exact .inr rfl) : SM X (.Assign [.Name x p'] e pos) (sSet i m) := .mk fun C ρ P ok => by
  have h' := h C ρ
  unfold sSet at ok
  revert h' ok
  generalize m (frOf ρ) = r
  intro ok h'
  rcases r with (d | ds | ds) | n | _
  · exact ws_set i h' rfl (ok _ (frOf_set ..)) hN hi hx hs hf
  · exact ws_set i (EF.ee h') rfl (ok _ (frOf_set ..)) hN hi hx hs hf
  · exact ok.elim
  · exact ex_set i h' (ok ρ rfl) hN hi hx hs hf
  · exact ok.elim
theorem sm_setO (i : Nat) {x : Str} {p' : Pos} (h : EM X e m) (hN : X.N.Nodup) (hi : X.N[i]? = some x := by rfl) (hx : Loc X.env.scope x := by first | exact Or.inl rfl | exact Or.inr rfl) (hs : swapsWith e (some (.Name x p')) pos.line X.env = pure false := by rfl)
    (hf : X.fn x = true ∨ X.env.scope.names.lookup x = some .local := by first | exact .inl rfl | exact .inr rfl) : SM X (.Assign [.Name x p'] e pos) (sSetO i m) := .mk fun C ρ P ok => by
  have h' := h C ρ
  unfold sSetO at ok
  revert h' ok
  generalize m (frOf ρ) = r
  intro ok h'
  rcases r with (d | ds | ds) | n | _
  · exact ws_set i h' rfl (ok _ (frOf_set ..)) hN hi hx hs hf
  · exact ws_setF' i h' (fun a => ok _ (frOf_set ..)) hN hi hx hs hf
  · exact ok.elim
  · exact ex_set i h' (ok ρ rfl) hN hi hx hs hf
  · exact ok.elim
def asg1 (g : D → R (List (Nat × D))) (E : Fr) (d : D) : O := match g d with
  | .ok ss => .nx (setsF E ss)
  | _ => .bad
/-- target = e -/
def sAsg (g : D → R (List (Nat × D))) (m : MX) : Fr → O := fun E => onV (m E) E fun v => match v with
  | .im d => asg1 g E d
  | .fr ds => asg1 g E (.lst ds)
  | .ro _ => .bad
theorem sm_asg {g : D → R (List (Nat × D))} {L : List Nat} (h : EM X e m) (hg : GM X tg g L) (hs : swapsWithSole [tg] e pos.line X.env = pure false := by rfl) (hw : swappedStores [tg] e X.env = pure none := by rfl) (h1 : (assignEach [tg] X.env).map (·.2) = [assign tg X.env] := by rfl) : SM X (.Assign [tg] e pos) (sAsg g m) := .mk fun C ρ P ok => by
  have h' := h C ρ
  unfold sAsg at ok
  revert h' ok
  generalize m (frOf ρ) = r
  intro ok h'
  have go : ∀ d, EE X C ρ e d → OkO P (asg1 g (frOf ρ) d) → WS X C ρ (.Assign [tg] e pos) P := fun d he ok => by
    unfold asg1 at ok
    split at ok
    · rename_i ss q
      exact ws_asg he (hg C ρ d ss q).1 (ok _ (frOf_sets ..)) hs hw h1
    · exact ok.elim
  rcases r with (d | ds | ds) | n | _
  · exact go d h' ok
  · exact go _ (EF.ee h') ok
  · exact ok.elim
  · exact ex_asg h' pg_wp (ok ρ rfl) hs hw h1
  · exact ok.elim
/-- x, y = e1, e2 -/
def sPar (i j : Nat) (ma : Fr → R (List D)) : Fr → O := fun E => match ma E with
  | .ok [d1, d2] => .nx (setS (setS E i (.im d1)) j (.im d2))
  | _ => .bad
theorem sm_par (i j : Nat) {x y : Str} {px py pt pt2 : Pos} {kt k2 : Nat} {mr : Fr → R (List D)} (ha : AM X [a, b] mr) (hN : X.N.Nodup) (hc : X.calm = true := by rfl) (hi : X.N[i]? = some x := by rfl) (hj : X.N[j]? = some y := by rfl) (hij : i ≠ j := by decide)
    (hx : X.env.scope.names.lookup x = some .local := by rfl) (hy : X.env.scope.names.lookup y = some .local := by rfl) (hw : swappedStores [.Tuple [.Name x px, .Name y py] kt pt] (.Tuple [a, b] k2 pt2) X.env = pure (some [x, y]) := by rfl)
    (hs : swapsWithSole [.Tuple [.Name x px, .Name y py] kt pt] (.Tuple [a, b] k2 pt2) pos.line X.env = pure false := by rfl) : SM X (.Assign [.Tuple [.Name x px, .Name y py] kt pt] (.Tuple [a, b] k2 pt2) pos) (sPar i j mr) := .mk fun C ρ P ok => by
  unfold sPar at ok
  split at ok
  · rename_i d1 d2 q
    exact ws_par i j (ha C ρ _ q).1 rfl (ok _ (by rw [frOf_set, frOf_set]; rfl)) hN hc hi hj hij hx hy hw hs
  · exact ok.elim
def sAug (i : Nat) (m : MX) : Fr → O := fun E => match nthS E i with
  | .im (.at (.int n)) => (match toD (m E) with
    | .ok (.at (.int k)) => .nx (setS E i (.im (.int (n + k))))
    | _ => .bad)
  | _ => .bad
theorem sm_aug (i : Nat) {x : Str} {p' : Pos} (h : EM X e m) (hN : X.N.Nodup) (hi : X.N[i]? = some x := by rfl) (hx : Loc X.env.scope x := by first | exact Or.inl rfl | exact Or.inr rfl) (hf : X.fn x = true ∨ X.env.scope.names.lookup x = some .local := by first | exact .inl rfl | exact .inr rfl) :
    SM X (.AugAssign (.Name x p') .Add e pos) (sAug i m) := .mk fun C ρ P ok => by
  unfold sAug at ok
  split at ok
  · rename_i n q
    split at ok
    · rename_i k q2
      exact ws_augI i (nth_im q) (h.ee q2) rfl (ok _ (frOf_set ..)) hN hi hx hf
    · exact ok.elim
  · exact ok.elim
/-- xs.append(e) -/
def sApp (i : Nat) (m : MX) : Fr → O := fun E => match nthS E i with
  | .ow ds => (match toD (m E) with
    | .ok d => if ds.length < sizeLine then .nx (setS E i (.ow (ds ++ [d]))) else .bad
    | _ => .bad)
  | _ => .bad
theorem sm_app (i : Nat) {x : Str} {p1 p2 p3 : Pos} (h : EM X e m) (hN : X.N[i]? = some x := by rfl) (hv : Vis X.env.scope x := by first | exact Or.inl rfl | exact Or.inr (Or.inl rfl) | exact Or.inr (Or.inr rfl)) (hs : swapsWith (.Call (.Attribute (.Name x p1) "append" p2) [e] [] p3) none pos.line X.env = pure false := by rfl)
    (hfew : ((backTo p3 (starEach [e] X.env)).all (fun x => !x.1) && (backToKw p3 (keywordEach [] X.env)).all (fun x => x.1.isSome) && decide (([e]).length + ([] : List Keyword).length + (if ([] : List Keyword).isEmpty then 0 else 1) < 30)) = true := by rfl)
    (hline : (p2.endLine == p3.line) = true := by rfl) (he1 : starEach [e] X.env = (false, eval e X.env) :: starEach [] X.env := by exact se_of rfl) (hd : (x == ("__debug__" : Str)) = false := by decide) (hcd : (x == ("__classdict__" : Str)) = false := by decide) : SM X (.Expr (.Call (.Attribute (.Name x p1) "append" p2) [e] [] p3) pos) (sApp i m) := .mk fun C ρ P ok => by
  unfold sApp at ok
  split at ok
  · rename_i ds q
    split at ok
    · rename_i d q2
      split at ok
      · obtain ⟨l, hr⟩ := nth_ow q
        exact ws_app i hr (h.ee q2) (by assumption) rfl (ok _ (frOf_set ..)) hN hv hs hfew hline he1 hd hcd
      · exact ok.elim
    · exact ok.elim
  · exact ok.elim
/-- xs[k] = e -/
def sSetIx (i : Nat) (mk m : MX) : Fr → O := fun E => match nthS E i with
  | .ow ds => (match toD (mk E) with
    | .ok (.at (.int j)) => (match ixN ds.length j with
      | some n => (match toD (m E) with
        | .ok d => .nx (setS E i (.ow (ds.set n d)))
        | _ => .bad)
      | none => .bad)
    | _ => .bad)
  | _ => .bad
theorem sm_setIx (i : Nat) {x : Str} {p1 p2 : Pos} {mk : MX} (h : EM X e m) (hk : EM X b mk) (hN : X.N[i]? = some x := by rfl) (hv : Vis X.env.scope x := by first | exact Or.inl rfl | exact Or.inr (Or.inl rfl) | exact Or.inr (Or.inr rfl)) (ha : ∀ v, assign (.Subscript (.Name x p1) b p2) X.env v = (do
      let ov ← holding [v] (eval (.Name x p1) X.env)
      let iv ← holding [v, ov] (eval b X.env)
      standAt p2
      holding [v, ov, iv] (setItem ov iv v)
      release [v, ov, iv] []) := by intro _; rfl) (hs : swapsWithSole [.Subscript (.Name x p1) b p2] e pos.line X.env = pure false := by rfl) (hw : swappedStores [.Subscript (.Name x p1) b p2] e X.env = pure none := by rfl) (h1 : (assignEach [.Subscript (.Name x p1) b p2] X.env).map (·.2) = [assign (.Subscript (.Name x p1) b p2) X.env] := by rfl)
    (hd : (x == ("__debug__" : Str)) = false := by decide) (hcd : (x == ("__classdict__" : Str)) = false := by decide) : SM X (.Assign [.Subscript (.Name x p1) b p2] e pos) (sSetIx i mk m) := .mk fun C ρ P ok => by
  unfold sSetIx at ok
  split at ok
  · rename_i ds q
    split at ok
    · rename_i j q2
      split at ok
      · rename_i n q3
        split at ok
        · rename_i d q4
          obtain ⟨l, hr⟩ := nth_ow q
          exact ws_setIx i hr (h.ee q4) (hk.ee q2) q3 rfl (ok _ (frOf_set ..)) hN hv ha hs hw h1 hd hcd
        · exact ok.elim
      · exact ok.elim
    · exact ok.elim
  · exact ok.elim
def sPop (i : Nat) : Fr → O := fun E => match nthS E i with
  | .ow ds => if ds.isEmpty = true then .bad else .nx (setS E i (.ow ds.dropLast))
  | _ => .bad
theorem sm_pop (i : Nat) {x : Str} {p1 p2 p3 : Pos} (hN : X.N[i]? = some x := by rfl) (hv : Vis X.env.scope x := by first | exact Or.inl rfl | exact Or.inr (Or.inl rfl) | exact Or.inr (Or.inr rfl)) (hs : swapsWith (.Call (.Attribute (.Name x p1) "pop" p2) [] [] p3) none pos.line X.env = pure false := by rfl)
    (hline : (p2.endLine == p3.line) = true := by rfl) (hd : (x == ("__debug__" : Str)) = false := by decide) (hcd : (x == ("__classdict__" : Str)) = false := by decide) : SM X (.Expr (.Call (.Attribute (.Name x p1) "pop" p2) [] [] p3) pos) (sPop i) := .mk fun C ρ P ok => by
  unfold sPop at ok
  split at ok
  · rename_i ds q
    split at ok
    · exact ok.elim
    · rename_i ne
      obtain ⟨l, hr⟩ := nth_ow q
      exact ws_pop i hr (fun z => ne (by rw [z]; rfl)) rfl (ok _ (frOf_set ..)) hN hv hs hline hd hcd
  · exact ok.elim
def sRaise (n : Str) : Fr → O := .er n
theorem sm_raise {x m : Str} {Cl : Addr} {j : Nat} {p p2 p3 : Pos} (T : ExcT X.K X.mg x Cl) (hc : X.calm = true := by rfl) (hg : Gl X x := by rfl) (hdb : (x == ("__debug__" : Str)) = false := by decide) : SM X (.Raise (some (.Call (.Name x p) [.Constant (.str m) j p2] [] p3)) none pos) (sRaise x) := .mk fun C ρ P ok => ws_raise T (ok ρ rfl) hc hg hdb

/-! ### loops -/
def nextO (o : O) (k : Fr → O) : O := match o with
  | .nx E => k E
  | .ct E => k E
  | .bk E => .nx E
  | o => o
def forN (g : D → R (List (Nat × D))) (f : Fr → O) : List D → Fr → O
  | [], E => .nx E
  | d :: ds, E => match g d with
    | .ok ss => nextO (f (setsF E ss)) (forN g f ds)
    | _ => .bad
def sFor (g : D → R (List (Nat × D))) (mi : Fr → R (List D)) (f : Fr → O) : Fr → O := fun E => match mi E with
  | .ok ds => forN g f ds E
  | _ => .bad
theorem sm_for {g : D → R (List (Nat × D))} {L : List Nat} {mi : Fr → R (List D)} {body : List Stmt} {f : Fr → O} (hp : PassesOwn (model X.prog X.w) X.A X.env X.xe) (hg : GM X tg g L) (hi : IM X tg iter mi) (hb : BM X body f) (hc : X.calm = true := by rfl) (hf : ∀ x, foldedSetIterable iter X.env x = pure x := by intro _; rfl) :
    SM X (.For tg iter body [] pos) (sFor g mi f) := .mk fun C ρ P ok => by
  unfold sFor at ok
  split at ok
  · rename_i ds q
    generalize ho : forN g f ds (frOf ρ) = o at ok
    refine ws_for (fun i ρ' => forN g f (ds.drop i) (frOf ρ') = o) hp (hi C ρ ds q) (by rw [List.drop_zero]; exact ho) (fun i d ρ' hd iv => ?_) (fun ρ' iv => ?_) hc hf
    · have hlt := (List.getElem?_eq_some_iff.mp hd).1
      have hdr : ds.drop i = d :: ds.drop (i + 1) := by
        rw [List.drop_eq_getElem_cons hlt, (List.getElem?_eq_some_iff.mp hd).2]
      rw [hdr, forN] at iv
      split at iv
      · rename_i ss q2
        refine ⟨_, L, (hg C ρ' d ss q2).1, hb C _ _ ?_⟩
        rw [frOf_sets]
        revert iv
        generalize f (setsF (frOf ρ') ss) = o1
        intro iv
        cases o1 with
        | nx E => exact fun ρ2 e => by show forN g f (ds.drop (i + 1)) (frOf ρ2) = o; rw [e]; exact iv
        | ct E => exact fun ρ2 e => by show forN g f (ds.drop (i + 1)) (frOf ρ2) = o; rw [e]; exact iv
        | rt r => have iv' : O.rt r = o := iv; subst iv'; exact ok
        | bk E => have iv' : O.nx E = o := iv; subst iv'; exact ok
        | er n E => have iv' : O.er n E = o := iv; subst iv'; exact ok
        | bad => have iv' : O.bad = o := iv; subst iv'; exact ok
      · subst iv
        exact ok.elim
    · rw [List.drop_length] at iv
      have iv' : O.nx (frOf ρ') = o := iv
      subst iv'
      exact ok ρ' rfl
  · exact ok.elim
def whileN (t : Fr → R Bool) (f : Fr → O) : Nat → Fr → O
  | 0, _ => .bad
  | n + 1, E => match t E with
    | .ok true => nextO (f E) (whileN t f n)
    | .ok false => .nx E
    | _ => .bad
def stepO (r : R Bool) (o : O) (k : Fr → O) (E : Fr) : O := match r with
  | .ok true => nextO o k
  | .ok false => .nx E
  | _ => .bad
theorem whileN_succ (t : Fr → R Bool) (f : Fr → O) (n : Nat) (E : Fr) : whileN t f (n + 1) E = stepO (t E) (f E) (whileN t f n) E := rfl
theorem while_more {t : Fr → R Bool} {f : Fr → O} {o : O} (ho : o ≠ .bad) : ∀ (n : Nat) (E : Fr), whileN t f n E = o → whileN t f (n + 1) E = o
  | 0, E, h => absurd h.symm ho
  | n + 1, E, h => by
    rw [whileN_succ] at h ⊢
    revert h
    generalize t E = r, f E = o1
    intro h
    rcases r with (_ | _) | m | _
    · exact h
    · cases o1 with
      | nx E1 => exact while_more ho n E1 h
      | ct E1 => exact while_more ho n E1 h
      | rt r => exact h
      | bk E1 => exact h
      | er m E1 => exact h
      | bad => exact h
    · exact h
    · exact h
theorem while_le {t : Fr → R Bool} {f : Fr → O} {o : O} (ho : o ≠ .bad) {n m : Nat} {E : Fr} (h : whileN t f n E = o) (l : n ≤ m) : whileN t f m E = o := by
  induction l with
  | refl => exact h
  | step _ ih => exact while_more ho _ _ ih
open Classical in
noncomputable def sWhile (t : Fr → R Bool) (f : Fr → O) : Fr → O := fun E => if h : ∃ n, whileN t f n E ≠ .bad then whileN t f (Classical.choose h) E else .bad
theorem sWhile_eq {t : Fr → R Bool} {f : Fr → O} {o : O} {n : Nat} {E : Fr} (h : whileN t f n E = o) (ho : o ≠ .bad) : sWhile t f E = o := by
  have hx : ∃ n, whileN t f n E ≠ .bad := ⟨n, by rw [h]; exact ho⟩
  unfold sWhile
  rw [dif_pos hx]
  have hc := Classical.choose_spec hx
  rcases Nat.le_total n (Classical.choose hx) with l | l
  · exact while_le ho h l
  · have := while_le hc rfl l
    rw [h] at this
    exact this.symm
theorem exists_least {p : Nat → Prop} : ∀ n, p n → ∃ n, p n ∧ ∀ m, p m → n ≤ m := by
  intro n
  induction n using Nat.strongRecOn with
  | ind n ih =>
    intro h
    by_cases z : ∃ m, m < n ∧ p m
    · obtain ⟨m, l, q⟩ := z
      exact ih m l q
    · exact ⟨n, h, fun m q => Nat.le_of_not_lt fun l => z ⟨m, l, q⟩⟩
open Classical in
noncomputable def leastN (p : Nat → Prop) : Nat := if h : ∃ n, p n ∧ ∀ m, p m → n ≤ m then Classical.choose h else 0
open Classical in
theorem leastN_ok {p : Nat → Prop} {n : Nat} (h : p n) : p (leastN p) ∧ ∀ m, p m → leastN p ≤ m := by
  have hx := exists_least n h
  unfold leastN
  rw [dif_pos hx]
  exact Classical.choose_spec hx
open Classical in
theorem sm_while {body : List Stmt} {f : Fr → O} (hp : PassesOwn (model X.prog X.w) X.A X.env X.xe) (ht : TM X c t) (hb : BM X body f) : SM X (.While c body [] pos) (sWhile t f) := .mk fun C ρ P ok => by
  unfold sWhile at ok
  split at ok
  · rename_i hx
    have hne := Classical.choose_spec hx
    generalize ho : whileN t f (Classical.choose hx) (frOf ρ) = o at ok hne
    refine ws_while (fun ρ' => ∃ n, whileN t f n (frOf ρ') = o) (fun ρ' => leastN fun n => whileN t f n (frOf ρ') = o) hp ⟨_, ho⟩ fun ρ' iv => ?_
    obtain ⟨n0, iv⟩ := iv
    obtain ⟨hs, _⟩ := leastN_ok (p := fun n => whileN t f n (frOf ρ') = o) iv
    have hs : whileN t f (leastN fun n => whileN t f n (frOf ρ') = o) (frOf ρ') = o := hs
    generalize (leastN fun n => whileN t f n (frOf ρ') = o) = n at hs
    cases n with
    | zero => exact absurd hs.symm hne
    | succ n =>
      rw [whileN] at hs
      split at hs
      · rename_i q
        refine ⟨true, ht C ρ' _ q, fun _ => hb C ρ' _ ?_, fun z => nomatch z⟩
        have less : ∀ ρ2 : Rho, whileN t f n (frOf ρ2) = o → (∃ n, whileN t f n (frOf ρ2) = o) ∧ (leastN fun n => whileN t f n (frOf ρ2) = o) < n + 1 := fun ρ2 h2 => ⟨⟨n, h2⟩, Nat.lt_succ_of_le ((leastN_ok (p := fun n => whileN t f n (frOf ρ2) = o) h2).2 n h2)⟩
        revert hs
        generalize f (frOf ρ') = o1
        intro hs
        cases o1 with
        | nx E => exact fun ρ2 e => less ρ2 (by rw [e]; exact hs)
        | ct E => exact fun ρ2 e => less ρ2 (by rw [e]; exact hs)
        | rt r => have iv' : O.rt r = o := hs; subst iv'; exact ok
        | bk E => have iv' : O.nx E = o := hs; subst iv'; exact ok
        | er n E => have iv' : O.er n E = o := hs; subst iv'; exact ok
        | bad => have iv' : O.bad = o := hs; subst iv'; exact ok.elim
      · rename_i q
        refine ⟨false, ht C ρ' _ q, (fun z => nomatch z), fun _ => ?_⟩
        subst hs
        exact ok ρ' rfl
      · exact absurd hs.symm hne
  · exact ok.elim
end
end DL

namespace DL
open PySem PySem.Spec PyProof.Rows L2
/-! ### list comprehensions -/
def wipeF (E : Fr) : List Nat → Fr
  | [] => E
  | v :: vs => setS (wipeF E vs) v .no
theorem frOf_wipe (ρ : Rho) : ∀ vs : List Nat, frOf (wipeR ρ vs) = wipeF (frOf ρ) vs
  | [] => rfl
  | v :: vs => by rw [wipeR, wipeF, frOf_set, frOf_wipe ρ vs]; rfl
/-- the slots are not one's own lists -/
def freeS (E : Fr) : List Nat → Bool
  | [] => true
  | v :: vs => (match nthS E v with
    | .ow _ => false
    | .od _ => false
    | .ot _ => false
    | .og _ _ => false
    | _ => true) && freeS E vs
theorem ows_set_same {ρ : Rho} {i : Nat} {x : En} (h1 : ∀ e, ρ[i]? = some e → e.own = []) (h2 : x.own = []) : ows (ρ.set i x) = ows ρ := by
  by_cases hi : i < ρ.length
  · obtain ⟨l, r, e1, e2⟩ := ows_split ρ i x hi
    have e3 : ownAt ρ i = [] := by
      unfold ownAt
      cases q : ρ[i]? with
      | none => rfl
      | some e => exact h1 e q
    rw [e1, e2, e3, h2]
  · rw [set_oob hi]
theorem own_free {ρ : Rho} {v : Nat} {vs : List Nat} (h : freeS (frOf ρ) (v :: vs) = true) : (∀ e, ρ[v]? = some e → e.own = []) ∧ freeS (frOf ρ) vs = true := by
  rw [freeS, Bool.and_eq_true] at h
  refine ⟨fun e he => ?_, h.2⟩
  have h1 := h.1
  rw [frOf_nth, he] at h1
  cases e <;> first | rfl | cases h1
theorem ows_wipeR {ρ : Rho} : ∀ {vs : List Nat}, freeS (frOf ρ) vs = true → ows (wipeR ρ vs) = ows ρ ∧ ∀ v ∈ vs, ∀ e, (wipeR ρ vs)[v]? = some e → e.own = []
  | [], _ => ⟨rfl, fun v hv => by cases hv⟩
  | v :: vs, h => by
    obtain ⟨h1, h2⟩ := own_free h
    obtain ⟨i1, i2⟩ := ows_wipeR h2
    have nx : ∀ e, (wipeR ρ vs)[v]? = some e → e.own = [] := by
      intro e he
      by_cases m : v ∈ vs
      · exact i2 v m e he
      · have same : ∀ ws : List Nat, v ∉ ws → (wipeR ρ ws)[v]? = ρ[v]? := by
          intro ws
          induction ws with
          | nil => intro _; rfl
          | cons w ws ih =>
            intro nm
            rw [wipeR, List.getElem?_set_ne (fun z => nm (by rw [z]; exact List.mem_cons_self)), ih fun z => nm (List.mem_cons_of_mem _ z)]
        rw [same vs m] at he
        exact h1 e he
    refine ⟨by rw [wipeR, ows_set_same nx rfl, i1], fun w hw e he => ?_⟩
    rw [wipeR] at he
    by_cases z : w = v
    · subst z
      by_cases hl : w < (wipeR ρ vs).length
      · rw [List.getElem?_set_self hl] at he
        cases he
        rfl
      · rw [List.getElem?_eq_none (by rw [List.length_set]; omega)] at he
        cases he
    · rw [List.getElem?_set_ne (Ne.symm z)] at he
      exact i2 w ((List.mem_cons.mp hw).resolve_left z) e he
theorem ows_setsR : ∀ {ss : List (Nat × D)} {ρ : Rho} {L : List Nat}, (∀ q ∈ ss, q.1 ∈ L) → (∀ v ∈ L, ∀ e, ρ[v]? = some e → e.own = []) → ows (setsR ρ ss) = ows ρ
  | [], _, _, _, _ => rfl
  | (i, d) :: ss, ρ, L, h1, h2 => by
    have hi : i ∈ L := h1 (i, d) List.mem_cons_self
    rw [setsR, ows_setsR (L := L) (fun q hq => h1 q (List.mem_cons_of_mem _ hq)) (fun v hv e he => ?_), ows_set_same (h2 i hi) rfl]
    by_cases z : v = i
    · subst z
      by_cases hl : v < ρ.length
      · rw [List.getElem?_set_self hl] at he
        cases he
        rfl
      · rw [List.getElem?_eq_none (by rw [List.length_set]; omega)] at he
        cases he
    · rw [List.getElem?_set_ne (Ne.symm z)] at he
      exact h2 v hv e he
/-- one turn: is it taken, and what it gives -/
def lc1 (g : D → R (List (Nat × D))) (t : Fr → R Bool) (m : MX) (E : Fr) (d : D) : R (Option D) := match g d with
  | .ok ss => lcT (t (setsF E ss)) (toD (m (setsF E ss)))
  | _ => .bad
where lcT (b : R Bool) (v : R D) : R (Option D) := match b with
  | .ok true => (match v with
    | .ok x => .ok (some x)
    | _ => .bad)
  | .ok false => .ok none
  | _ => .bad
def optR (x : R (Option D)) (l : R (List D)) : R (List D) := match x with
  | .ok (some d) => (match l with
    | .ok ds => .ok (d :: ds)
    | _ => .bad)
  | .ok none => l
  | _ => .bad
def lcN (h : D → R (Option D)) : List D → R (List D)
  | [] => .ok []
  | d :: ds => optR (h d) (lcN h ds)
def lcGo (mi : R (List D)) (fre : Bool) (h : D → R (Option D)) : R RV := match mi with
  | .ok ds => if fre = true ∧ ds.length ≤ sizeLine then lstR (lcN h ds) else .bad
  | _ => .bad
def eLc (js : List Nat) (g : D → R (List (Nat × D))) (mi : Fr → R (List D)) (t : Fr → R Bool) (m : MX) : MX := fun E => lcGo (mi E) (freeS E js) (lc1 g t m (wipeF E js))
/-- the tests of a comprehension -/
structure TsM (X : Cx) (ifs : List Expr) (t : Fr → R Bool) : Prop where
  run : ∀ C ρ k, t (frOf ρ) = .ok k → ETs X C ρ ifs k
instance {X : Cx} {ifs : List Expr} {t : Fr → R Bool} : CoeFun (TsM X ifs t) fun _ => ∀ C ρ k, t (frOf ρ) = .ok k → ETs X C ρ ifs k := ⟨fun h => h.run⟩
def tTrue : Fr → R Bool := fun _ => .ok true
section
variable {X : Cx} {C : Ctx} {ρ : Rho} {e a b c tg iter elt : Expr} {ifs : List Expr} {es : List Expr} {m ma mb mc : MX} {d : D} {ds : List D} {pos p spos py : Pos} {t : Fr → R Bool} {P : Post} {sts : List Stmt} {scope : Scope} {own : List (Str × Nat)}
theorem tsm_nil : TsM X [] tTrue := .mk fun C ρ k q => by cases q; exact ets_nil
theorem tsm_one (h : TM X e t) : TsM X [e] t := .mk fun C ρ k q => ets_one (h C ρ k q)
def takeB (h : D → R (Option D)) (d : D) : Bool := match h d with
  | .ok (some _) => true
  | _ => false
def giveD (h : D → R (Option D)) (d : D) : D := match h d with
  | .ok (some v) => v
  | _ => .non
theorem lcN_ok {h : D → R (Option D)} : ∀ {ds vs : List D}, lcN h ds = .ok vs → (∀ d ∈ ds, ∃ x, h d = .ok x) ∧ vs = (ds.filter (takeB h)).map (giveD h)
  | [], vs, q => by cases q; exact ⟨(fun d hd => by cases hd), rfl⟩
  | d :: ds, vs, q => by
    rw [lcN] at q
    cases e : h d with
    | ok x =>
      rw [e] at q
      cases x with
      | some v =>
        cases e2 : lcN h ds with
        | ok ws =>
          rw [e2] at q
          cases q
          obtain ⟨i1, i2⟩ := lcN_ok e2
          refine ⟨fun z hz => (List.mem_cons.mp hz).elim (fun z => by subst z; exact ⟨_, e⟩) (i1 z), ?_⟩
          rw [List.filter_cons_of_pos (by unfold takeB; rw [e]), List.map_cons, i2, show giveD h d = v by unfold giveD; rw [e]]
        | er n => rw [e2] at q; cases q
        | bad => rw [e2] at q; cases q
      | none =>
        obtain ⟨i1, i2⟩ := lcN_ok (h := h) (ds := ds) (vs := vs) q
        refine ⟨fun z hz => (List.mem_cons.mp hz).elim (fun z => by subst z; exact ⟨_, e⟩) (i1 z), ?_⟩
        rw [List.filter_cons_of_neg (by unfold takeB; rw [e]; decide), i2]
    | er n => rw [e] at q; cases q
    | bad => rw [e] at q; cases q
/-- the parts of a comprehension in their blocks -/
structure LcM (X : Cx) (scope : Scope) (own : List (Str × Nat)) (tg : Expr) (ifs : List Expr) (elt : Expr) (g : D → R (List (Nat × D))) (t : Fr → R Bool) (m : MX) : Prop where
  gt : ∃ L, (∀ j ∈ L, j ∈ own.map (·.2)) ∧ ∀ X', Blk X scope X' → GM X' tg g L
  ts : ∀ X', Blk X scope X' → TsM X' ifs t
  el : ∀ X', Blk X scope X' → EM X' elt m
theorem lc_ok {g : D → R (List (Nat × D))} (h : LcM X scope own tg ifs elt g t m) (nx : ∃ s H c cl fp, Blk X scope (X.blk s H scope (compEnvC scope cl c X.env) fp)) {vs : List D} (hf : freeS (frOf ρ) (own.map (·.2)) = true) (q : lcN (lc1 g t m (wipeF (frOf ρ) (own.map (·.2)))) ds = .ok vs) :
    LcOk X scope own tg ifs elt (wipeR ρ (own.map (·.2))) ds (fun d => d) (takeB (lc1 g t m (wipeF (frOf ρ) (own.map (·.2))))) (giveD (lc1 g t m (wipeF (frOf ρ) (own.map (·.2))))) := fun C i x hx => by
  obtain ⟨x', e⟩ := (lcN_ok q).1 x (List.mem_of_getElem? hx)
  obtain ⟨L, hL, hg⟩ := h.gt
  have e0 := e
  unfold lc1 at e
  split at e
  · rename_i ss q1
    obtain ⟨s, H, cc, cl, fp, blk⟩ := nx
    have hq := (hg _ blk C ρ x ss q1).2
    obtain ⟨o1, o2⟩ := ows_wipeR hf
    have fr : frOf (setsR (wipeR ρ (own.map (·.2))) ss) = setsF (wipeF (frOf ρ) (own.map (·.2))) ss := by rw [frOf_sets, frOf_wipe]
    refine ⟨setsR (wipeR ρ (own.map (·.2))) ss, L, fun X' b => (hg X' b C _ x ss q1).1, ows_setsR (L := own.map (·.2)) (fun q hq' => hL _ (hq q hq')) o2, hL, fun X' b => ?_, fun hp X' b => ?_⟩
    · refine h.ts X' b C _ _ ?_
      rw [fr]
      unfold takeB
      rw [e0]
      unfold lc1.lcT at e
      split at e
      · rename_i q2
        split at e
        · cases e; exact q2
        · cases e
      · rename_i q2
        cases e; exact q2
      · cases e
    · unfold takeB at hp
      unfold giveD
      rw [e0] at hp ⊢
      cases x' with
      | none => cases hp
      | some v =>
        refine (h.el X' b).ee ?_
        rw [fr]
        unfold lc1.lcT at e
        split at e
        · split at e
          · rename_i q3
            cases e
            exact q3
          · cases e
        · cases e
        · cases e
  · cases e
theorem em_lc {g : D → R (List (Nat × D))} {mi : Fr → R (List D)} (hi : IM X tg iter mi) (h : LcM X scope own tg ifs elt g t m) (ok : BlkOk X.N X.env.scope scope own) (hN : X.N.Nodup) (hc : X.calm = true := by rfl) (hf : ∀ x, foldedSetIterable iter X.env x = pure x := by intro _; rfl) :
    EM X (.ListComp elt [⟨tg, iter, ifs, 0⟩] scope pos) (eLc (own.map (·.2)) g mi t m) := .mk fun C ρ => by
  unfold eLc lcGo
  split
  · rename_i ds q
    split
    · rename_i hz
      cases q2 : lcN (lc1 g t m (wipeF (frOf ρ) (own.map (·.2)))) ds with
      | ok vs =>
        intro σ H S Q qq
        have lo := lc_ok h ⟨X.s_0, (fun _ => none), X.env.locals, [], [], X.s_0, (fun _ => none), X.env.locals, [], [], rfl⟩ hz.1 q2
        refine ef_lc (enc := fun d : D => d) (xs := ds) (by rw [List.map_id']; exact hi C ρ ds q) lo rfl (ows_wipeR hz.1).1 hz.2 ok hN hc hf σ H S Q ?_
        rw [← (lcN_ok q2).2]
        exact qq
      | er n => trivial
      | bad => trivial
    · trivial
  · trivial
/-- name = [..] -/
theorem ws_setLc' {β : Type} (i : Nat) {y : Str} {xs : List β} {enc : β → D} {pp : β → Bool} {f : β → D} {ρw : Rho} (hi : EI X C ρ tg iter (xs.map enc)) (hs : LcOk X scope own tg ifs elt ρw xs enc pp f) (h : ∀ a, P.nx (ρ.set i (.ow a ((xs.filter pp).map f)))) (hw : wipeR ρ (own.map (·.2)) = ρw) (how : ows ρw = ows ρ) (hz : xs.length ≤ sizeLine)
    (ok : BlkOk X.N X.env.scope scope own) (hN : X.N.Nodup) (hy : X.N[i]? = some y := by rfl) (hyl : X.env.scope.names.lookup y = some .local := by rfl) (hsw : swapsWith (.ListComp elt [⟨tg, iter, ifs, 0⟩] scope pos) (some (.Name y py)) spos.line X.env = pure true := by exact sw_true rfl rfl rfl (by decide +kernel))
    (hc : X.calm = true := by rfl) (hf : ∀ x, foldedSetIterable iter X.env x = pure x := by intro _; rfl) : WS X C ρ (.Assign [.Name y py] (.ListComp elt [⟨tg, iter, ifs, 0⟩] scope pos) spos) P := fun σ H D S L =>
  wpS_of (ps_setLc hc hN hy hyl hsw pi_wp ok cG_ok cT_ok cE_ok hf) (lc_reading S hi hw how hz hs fun a vs H' n s l r => by
    by_cases hl : i < ρ.length
    · obtain ⟨S2, s2⟩ := S.setOw i hl n s l r
      exact L.nx _ _ _ (h a) S2 s2
    · have h' := h a
      rw [set_oob hl] at h'
      show D.nx (σ.set i (some (.ref a))) H'
      rw [set_oobS (by rw [S.len]; exact hl)]
      exact L.nx _ _ _ h' (S.same s) (vis_same s))
theorem sm_setLcO (i : Nat) {y : Str} {g : D → R (List (Nat × D))} {mi : Fr → R (List D)} (hi : IM X tg iter mi) (h : LcM X scope own tg ifs elt g t m) (ok : BlkOk X.N X.env.scope scope own) (hN : X.N.Nodup) (hy : X.N[i]? = some y := by rfl) (hyl : X.env.scope.names.lookup y = some .local := by rfl)
    (hsw : swapsWith (.ListComp elt [⟨tg, iter, ifs, 0⟩] scope pos) (some (.Name y py)) spos.line X.env = pure true := by exact sw_true rfl rfl rfl (by decide +kernel)) (hc : X.calm = true := by rfl) (hf : ∀ x, foldedSetIterable iter X.env x = pure x := by intro _; rfl) :
    SM X (.Assign [.Name y py] (.ListComp elt [⟨tg, iter, ifs, 0⟩] scope pos) spos) (sSetO i (eLc (own.map (·.2)) g mi t m)) := .mk fun C ρ P okk => by
  unfold sSetO eLc lcGo at okk
  split at okk
  · rename_i ds q
    split at okk
    · rename_i hz
      cases q2 : lcN (lc1 g t m (wipeF (frOf ρ) (own.map (·.2)))) ds with
      | ok vs =>
        rw [q2] at okk
        intro σ H Dn S L
        have lo := lc_ok h ⟨X.s_0, (fun _ => none), X.env.locals, [], [], X.s_0, (fun _ => none), X.env.locals, [], [], rfl⟩ hz.1 q2
        refine ws_setLc' i (enc := fun d : D => d) (xs := ds) (by rw [List.map_id']; exact hi C ρ ds q) lo (fun a => ?_) rfl (ows_wipeR hz.1).1 hz.2 ok hN hy hyl hsw hc hf σ H Dn S L
        rw [← (lcN_ok q2).2]
        exact okk _ (frOf_set ..)
      | er n => rw [q2] at okk; exact okk.elim
      | bad => rw [q2] at okk; exact okk.elim
    · exact okk.elim
  · exact okk.elim
/-- a list of one's own, frozen where it is made -/
theorem ws_frozen (i : Nat) {st : Stmt} (h : ∀ P' : Post, (∀ a, P'.nx (ρ.set i (.ow a ds))) → P'.rt = P.rt → P'.bk = P.bk → P'.ct = P.ct → P'.er = P.er → WS X C ρ st P') (k : P.nx (ρ.set i (.im (.lst ds)))) : WS X C ρ st P := fun σ H D S L =>
  h { P with nx := fun ρ' => ∃ a, ρ' = ρ.set i (.ow a ds) } (fun a => ⟨a, rfl⟩) rfl rfl rfl rfl σ H D S ⟨fun ρ' σ' H' ⟨a, e⟩ S' v' => by
    subst e
    by_cases hl : i < ρ.length
    · obtain ⟨S2, s2⟩ := S'.freeze i (List.getElem?_set_self hl)
      rw [List.set_set] at S2 s2
      exact L.nx _ _ _ k S2 (v'.trans s2)
    · rw [set_oob hl] at k S' v'
      exact L.nx _ _ _ k S' v', L.bk, L.ct, L.rt, L.tk⟩
theorem sm_setLc (i : Nat) {y : Str} {g : D → R (List (Nat × D))} {mi : Fr → R (List D)} (hi : IM X tg iter mi) (h : LcM X scope own tg ifs elt g t m) (ok : BlkOk X.N X.env.scope scope own) (hN : X.N.Nodup) (hy : X.N[i]? = some y := by rfl) (hyl : X.env.scope.names.lookup y = some .local := by rfl)
    (hsw : swapsWith (.ListComp elt [⟨tg, iter, ifs, 0⟩] scope pos) (some (.Name y py)) spos.line X.env = pure true := by exact sw_true rfl rfl rfl (by decide +kernel)) (hc : X.calm = true := by rfl) (hf : ∀ x, foldedSetIterable iter X.env x = pure x := by intro _; rfl) :
    SM X (.Assign [.Name y py] (.ListComp elt [⟨tg, iter, ifs, 0⟩] scope pos) spos) (sSet i (eLc (own.map (·.2)) g mi t m)) := .mk fun C ρ P okk => by
  unfold sSet eLc lcGo at okk
  split at okk
  · rename_i ds q
    split at okk
    · rename_i hz
      cases q2 : lcN (lc1 g t m (wipeF (frOf ρ) (own.map (·.2)))) ds with
      | ok vs =>
        rw [q2] at okk
        refine ws_frozen i (ds := vs) (fun P' k1 k2 k3 k4 k5 => ?_) (okk _ (frOf_set ..))
        intro σ H Dn S L
        have lo := lc_ok h ⟨X.s_0, (fun _ => none), X.env.locals, [], [], X.s_0, (fun _ => none), X.env.locals, [], [], rfl⟩ hz.1 q2
        refine ws_setLc' i (enc := fun d : D => d) (xs := ds) (by rw [List.map_id']; exact hi C ρ ds q) lo (fun a => ?_) rfl (ows_wipeR hz.1).1 hz.2 ok hN hy hyl hsw hc hf σ H Dn S L
        rw [← (lcN_ok q2).2]
        exact k1 a
      | er n => rw [q2] at okk; exact okk.elim
      | bad => rw [q2] at okk; exact okk.elim
    · exact okk.elim
  · exact okk.elim

/-! ### try .. except -/
/-- slot i: the caught one; L: the classes that are caught -/
def tryO (i : Nat) (L : List Str) (o : O) (s : Fr → O) : O := match o with
  | .er n E => if L.contains n = true then (match s (setS E i (.im (.exc n))) with
      | .nx E => .nx (setS E i .no)
      | .bk E => .bk (setS E i .no)
      | .ct E => .ct (setS E i .no)
      | .rt r => .rt r
      | _ => .bad) else .bad
  | o => o
def sTry (i : Nat) (L : List Str) (f s : Fr → O) : Fr → O := fun E => tryO i L (f E) s
theorem sm_try (i : Nat) {x n : Str} {c : Addr} {body suite : List Stmt} {b₀ : Stmt} {np pos pos' : Pos} {L : List Str} {f s : Fr → O} (hc : X.mg x = some (.ref c)) (hN : X.N.Nodup) (hL : ∀ n, L.contains n = true → ∀ Cl, clsOf X.K n = some Cl → PySem.W.exmOne X.K (.ref Cl) (.ref c) = some true)
    (hb : ∀ (pn : List (Addr × Obj)) (xe : Value → Shared → Prop), PassesOwn (model X.prog X.w) X.A X.env xe → BM (X.tr pn xe) body f) (hs : ∀ (a : Addr) (pn : List (Addr × Obj)), BM (X.suite a pn) (b₀ :: suite) s)
    (hst : X.stack = X.env :: X.outer := by rfl) (hex : X.ex = [] := by rfl) (hf : X.env.frame = some X.env.locals := by rfl) (hi : X.N[i]? = some n := by rfl) (hln : X.env.kindOf n = some .local := by rfl) (hg : Gl X x := by rfl) (hdb : (x == ("__debug__" : Str)) = false := by decide) :
    SM X (.Try body [.ExceptHandler (some (.Name x np)) (some n) (b₀ :: suite) pos'] [] [] pos) (sTry i L f s) := .mk fun C ρ P ok => by
  refine ws_try i hc hN (fun pn xe hp => hb pn xe hp C ρ _ ?_) hst hex hf hi hln hg hdb
  unfold sTry tryO at ok
  revert ok
  generalize f (frOf ρ) = o
  intro ok
  cases o with
  | nx E => exact ok
  | rt r => exact ok
  | bk E => exact ok
  | ct E => exact ok
  | bad => exact ok
  | er n E =>
    intro ρ' e
    dsimp only at ok
    split at ok
    · rename_i hl
      refine ⟨hL n hl, fun a pn => hs a pn C _ _ ?_⟩
      rw [frOf_set, e]
      show OkO (sPost P i) (s (setS E i (.im (.exc n))))
      revert ok
      generalize s (setS E i (.im (.exc n))) = o2
      intro ok
      cases o2 with
      | nx E2 => exact fun ρ2 e2 => ok _ (by rw [frOf_set, e2]; rfl)
      | bk E2 => exact fun ρ2 e2 => ok _ (by rw [frOf_set, e2]; rfl)
      | ct E2 => exact fun ρ2 e2 => ok _ (by rw [frOf_set, e2]; rfl)
      | rt r => exact ok
      | er z E2 => exact ok.elim
      | bad => exact ok.elim
    · exact ok.elim
end

/-! ### defs -/
def startF (n : Nat) (as : List D) : Fr := as.map Sl.im ++ List.replicate (n - as.length) .no
def retO : O → R Ret
  | .nx _ => .ok (.im .non)
  | .rt r => .ok r
  | .er n _ => .er n
  | _ => .bad
def fnR (n : Nat) (b : Fr → O) (as : List D) : R Ret := retO (b (startF n as))
theorem frOf_start (N : List Str) (ds : List D) : frOf (startR N ds) = startF N.length ds := by
  unfold frOf startR startF
  rw [List.map_append, List.map_map, List.map_replicate]
  rfl
section
variable {P : Program} {w : World} {K : PySem.W.Frag} {mg : Str → Option Value} {base : Heap}
theorem ret_post {o : O} {r : R Ret} (e : retO o = r) (h : notBad r) : OkO (fnPost (resOf r)) o := by
  subst e
  cases o with
  | nx E => exact fun ρ _ => rfl
  | rt r => exact rfl
  | bk E => exact h.elim
  | ct E => exact h.elim
  | er n E => exact fun ρ _ => rfl
  | bad => exact h.elim
theorem cal_body {x qual : Str} {st : Stmt} {f : Addr} {fd : FuncData} {N ps : List Str} {k : Nat} {b : Fr → O} (F : Fun K x qual st f fd) (hm : mg x = some (.ref f)) (hb : Binds K fd ps []) (S : FnScope N ps (defScope st))
    (body : ∀ (cdv : Value) (A : Around) (outer : List Env) (s : Shared) (H : Hp) (E : XK), Room k (A.deeper (envOfC qual (defScope st) s.heap.objs.size f cdv)) → BM (cxOf (L2.CX P w) P w K mg base N qual (defScope st) f cdv A outer s H E) (defBody st) b) :
    CalX P w K mg base (k + 1) x ps (spM K ps.length (fnR N.length b)) :=
  CalX.of_body F hm hb S (fun y => y.2) fun cdv A outer s H E C hr y hy => body cdv A outer s H E hr C _ _ (by rw [frOf_start]; exact ret_post rfl hy)
theorem calN_body {x z : Str} {st : Stmt} {f : Addr} {fd : FuncData} {N ps : List Str} {k : Nat} {b : Fr → O} (F : FunD K x x (defArgs st) (defBody st) (defScope st) [.non] [] f fd) (hm : mg x = some (.ref f)) (hb : Binds K fd ps []) (hb0 : Binds K fd ps [.none])
    (hbk : KBn K fd ps (ps.length - 1) [z] (fun us ws => us ++ ws) fun vs zs => vs ++ zs) (S : FnScope N ps (defScope st))
    (body : ∀ (cdv : Value) (A : Around) (outer : List Env) (s : Shared) (H : Hp) (E : XK), Room k (A.deeper (envOfC x (defScope st) s.heap.objs.size f cdv)) → BM (cxOf (L2.CX P w) P w K mg base N x (defScope st) f cdv A outer s H E) (defBody st) b) :
    CalN P w K mg base (k + 1) x ps z (spM K ps.length (fnR N.length b)) :=
  CalN.of_body F hm hb hb0 hbk S (fun y => y.2) fun cdv A outer s H E C hr y hy => body cdv A outer s H E hr C _ _ (by rw [frOf_start]; exact ret_post rfl hy)
theorem law_body {st : Stmt} {f : Addr} {fd : FuncData} {N ps : List Str} {k : Nat} {b : Fr → O} (F : Fun K "law" "law" st f fd) (S : FnScope N ps (defScope st)) (hps : 1 = ps.length) (ok : ∀ ns : List Int, ns.length ≤ 63 → (∀ z ∈ ns, Sz 1048576 z) → fnR N.length b [.lst (D.ints ns)] = .ok (.im (.bl true)))
    (body : ∀ (cdv : Value) (A : Around) (outer : List Env) (s : Shared) (H : Hp) (E : XK), Room k (A.deeper (envOfC "law" (defScope st) s.heap.objs.size f cdv)) → BM (cxOf CX0 P w K mg base N "law" (defScope st) f cdv A outer s H E).nox (defBody st) b) :
    FnOk P w K mg base CX0 (k + 1) f fd ps (spLaw K) :=
  fn_of_body F S (fun _ => hps) fun cdv A outer s H E C hr ns hy => body cdv A outer s H E hr C _ _ (by
    rw [frOf_start]
    have e := ok ns hy.1 hy.2
    have z := ret_post (o := b (startF N.length [.lst (D.ints ns)])) rfl (by show notBad (fnR _ _ _); rw [e]; trivial)
    have e2 : retO (b (startF N.length [.lst (D.ints ns)])) = .ok (.im (.bl true)) := e
    rw [e2] at z
    exact z)
end
end DL

namespace DL
open PySem PySem.Spec PyProof.Rows L2
section
variable {X : Cx} {C : Ctx} {ρ : Rho} {e a b c tg iter elt : Expr} {ifs : List Expr} {es : List Expr} {m ma mb mc : MX} {d : D} {ds : List D} {pos p spos py : Pos} {t : Fr → R Bool} {P : Post} {sts : List Stmt}
/-! ### int(..) of bools and ints -/
def intcR : R D → R RV
  | .ok (.at (.bl b)) => .ok (.im (.int (if b = true then 1 else 0)))
  | .ok (.at (.int i)) => .ok (.im (.int i))
  | .ok (.at (.str z)) => (match PySem.intText? z with
    | some n => if z.length ≤ 640 then .ok (.im (.int n)) else .bad
    | none => .bad)
  | _ => .bad
def eInt (m : MX) : MX := fun E => intcR (toD (m E))
theorem em_intc {p : Pos} (hm : X.mg "int" = none) (ha : EM X e m) (hg : Gl X "int" := by rfl) (he : starEach [e] X.env = (false, eval e X.env) :: starEach [] X.env := by exact se_of rfl) : EM X (.Call (.Name "int" p) [e] [] pos) (eInt m) := .mk fun C ρ => by
  unfold eInt intcR
  split
  · rename_i k q
    exact ee_intB hm (ha.ee q) hg he
  · rename_i i q
    exact ee_callTy call_int1 (eal_cons (ha.ee q) eal_nil he) (fun σ H vs S r Q qq => by
      obtain ⟨v, rfl, r1⟩ := r.one
      cases r1
      exact .inl ⟨i, rfl, qq _ H (Same.refl H) (.at _)⟩) hm (by decide +kernel) hg (by decide) (by decide) he rfl
  · rename_i z q
    split
    · rename_i n q2
      split
      · exact ee_intS hm (ha.ee q) q2 (by assumption) hg he
      · trivial
    · trivial
  · trivial
/-! ### is True, is False -/
def D.isBl (b : Bool) : D → Bool
  | .at (.bl k) => k == b
  | _ => false
theorem ec_isB {k : Bool} (ha : EE X C ρ a d) {j p} : EC X C ρ .Is a (.Constant (.bool k) j p) (.bl (d.isBl k)) := fun σ H S Q q pins s I => by
  refine binT pe_wp pe_wp I (R := fun v u H2 => Rep X.K H2 v d ∧ u = .bl k ∧ Q (.bl (d.isBl k)) H2) (ha σ H S _ fun v H1 s1 r1 => (ee_bl (C := C) (ρ := ρ)) σ H1 (S.same s1) _ fun u H2 s2 r2 => ?_) fun x u s2 v y H2 I2 rx ry q2 => ?_
  · cases r2
    have S2 := (S.same s1).same s2
    exact ⟨Rep.mono S2.visIn _ (Rep.mono (vis_same s2) _ r1), rfl, q H2 (s1.trans s2)⟩
  · obtain ⟨r1, rfl, q2⟩ := q2
    have ey : u = Value.bool k := ry
    subst ey
    cases r1 with
    | «at» w =>
      cases v with
      | bl i =>
        cases (show x = Value.bool i from rx)
        by_cases e : i = k
        · subst e
          exact wpAny_is_self rfl ⟨.bl true, H2, I2, rfl, by simpa [D.isBl] using q2⟩
        · exact wpAny_is_other rfl (fun z => e (Value.bool.inj z)) ⟨.bl false, H2, I2, rfl, by rw [show (D.isBl k (.at (.bl i))) = false from beq_eq_false_iff_ne.mpr e] at q2; exact q2⟩
      | non => cases (show x = Value.none from rx); exact wpAny_is_other rfl (fun z => nomatch z) ⟨.bl false, H2, I2, rfl, q2⟩
      | int i => obtain ⟨t, rfl⟩ := rx; exact wpAny_is_other rfl (fun z => nomatch z) ⟨.bl false, H2, I2, rfl, q2⟩
      | str i => obtain ⟨t, rfl⟩ := rx; exact wpAny_is_other rfl (fun z => nomatch z) ⟨.bl false, H2, I2, rfl, q2⟩
      | byt i => obtain ⟨t, rfl⟩ := rx; exact wpAny_is_other rfl (fun z => nomatch z) ⟨.bl false, H2, I2, rfl, q2⟩
      | flt i => obtain ⟨t, rfl⟩ := rx; exact wpAny_is_other rfl (fun z => nomatch z) ⟨.bl false, H2, I2, rfl, q2⟩
      | ref i => cases (show x = Value.ref i from rx); exact wpAny_is_other rfl (fun z => nomatch z) ⟨.bl false, H2, I2, rfl, q2⟩
      | ty i => cases (show x = Value.type i from rx); exact wpAny_is_other rfl (fun z => nomatch z) ⟨.bl false, H2, I2, rfl, q2⟩
    | tup s r => cases rx; exact wpAny_is_other rfl (fun z => nomatch z) ⟨.bl false, H2, I2, rfl, q2⟩
    | lst s r => cases rx; exact wpAny_is_other rfl (fun z => nomatch z) ⟨.bl false, H2, I2, rfl, q2⟩
    | exc s r => cases rx; exact wpAny_is_other rfl (fun z => nomatch z) ⟨.bl false, H2, I2, rfl, q2⟩
    | obj _ _ _ _ => cases rx; exact wpAny_is_other rfl (fun z => nomatch z) ⟨.bl false, H2, I2, rfl, q2⟩
    | dct _ => cases rx; exact wpAny_is_other rfl (fun z => nomatch z) ⟨.bl false, H2, I2, rfl, q2⟩
    | any => cases rx; exact wpAny_is_other rfl (fun z => nomatch z) ⟨.bl false, H2, I2, rfl, q2⟩
def isBR (k : Bool) : R D → R Bool
  | .ok d => .ok (d.isBl k)
  | _ => .bad
def cIsB (k : Bool) (m : MX) : Fr → R Bool := fun E => isBR k (toD (m E))
theorem cm_isB {k : Bool} (ha : EM X a ma) {j p} : CM X .Is a (.Constant (.bool k) j p) (cIsB k ma) := .mk fun C ρ z q => by
  unfold cIsB isBR at q
  split at q
  · rename_i d q1
    cases q
    exact ec_isB (ha.ee q1)
  · cases q
/-! ### in a tuple of ints -/
theorem inV_ints (i : Int) : ∀ ns : List Int, inV (.int i) (ns.map V.int) = decide (i ∈ ns)
  | [] => rfl
  | n :: ns => by
    show (eqV (.int n) (.int i) || inV (.int i) (ns.map V.int)) = _
    rw [inV_ints i ns, show eqV (.int n) (.int i) = (n == i) from rfl, Bool.beq_eq_decide_eq]
    by_cases e : i = n
    · subst e; simp
    · have e' : ¬ n = i := fun z => e z.symm
      simp [e, e']
theorem flat_ints : ∀ ns : List Int, (ns.map V.int).all flatV = true
  | [] => rfl
  | n :: ns => by rw [List.map_cons, List.all_cons, flat_ints ns]; rfl
theorem ec_inT {i : Int} {ns : List Int} (ha : EE X C ρ a (.int i)) (hb : EE X C ρ b (.tup (D.ints ns))) : EC X C ρ .In a b (.bl (decide (i ∈ ns))) ∧ EC X C ρ .NotIn a b (.bl (!decide (i ∈ ns))) :=
  ⟨ec_opD op_in_seq ha hb fun σ H v u S r1 r2 Q q => by
    cases r1
    cases r2 with
    | tup sq rs =>
      have e1 := rs.ints
      subst e1
      refine ⟨_, _, rfl, .inr (Same.seqT S.visIn (tq sq)), rfl, flat_ints ns, ?_⟩
      rw [if_neg Bool.false_ne_true, inV_ints]
      exact q H (Same.refl H),
  ec_opD op_notIn_seq ha hb fun σ H v u S r1 r2 Q q => by
    cases r1
    cases r2 with
    | tup sq rs =>
      have e1 := rs.ints
      subst e1
      refine ⟨_, _, rfl, .inr (Same.seqT S.visIn (tq sq)), rfl, flat_ints ns, ?_⟩
      rw [if_pos rfl, inV_ints]
      exact q H (Same.refl H)⟩
def strsOf : List D → Option (List Str)
  | [] => some []
  | .at (.str z) :: r => (strsOf r).map (z :: ·)
  | _ => none
theorem strsOf_eq : ∀ {ds : List D} {ns : List Str}, strsOf ds = some ns → ds = ns.map D.str
  | [], ns, h => by cases h; rfl
  | .at (.str z) :: r, ns, h => by
    unfold strsOf at h
    cases e : strsOf r with
    | none => rw [e] at h; cases h
    | some ms => rw [e] at h; cases h; rw [strsOf_eq e]; rfl
  | .at .non :: _, ns, h => by cases h
  | .at (.bl _) :: _, ns, h => by cases h
  | .at (.int _) :: _, ns, h => by cases h
  | .at (.byt _) :: _, ns, h => by cases h
  | .at (.flt _) :: _, ns, h => by cases h
  | .at (.ref _) :: _, ns, h => by cases h
  | .at (.ty _) :: _, ns, h => by cases h
  | .tup _ :: _, ns, h => by cases h
  | .lst _ :: _, ns, h => by cases h
  | .exc _ :: _, ns, h => by cases h
def inTR : R D → R D → R Bool
  | .ok (.at (.int i)), .ok (.tup ds) => (match intsOf ds with
    | some ns => .ok (decide (i ∈ ns))
    | none => .bad)
  | .ok (.at (.str z)), .ok (.tup ds) => (match strsOf ds with
    | some ns => .ok (decide (z ∈ ns))
    | none => .bad)
  | _, _ => .bad
def cInT (ma mb : MX) : Fr → R Bool := fun E => inTR (toD (ma E)) (toD (mb E))
def cNotInT (ma mb : MX) : Fr → R Bool := fun E => notR (inTR (toD (ma E)) (toD (mb E)))
theorem inTR_ok {ma mb : MX} (ha : EM X a ma) (hb : EM X b mb) {k : Bool} (q : inTR (toD (ma (frOf ρ))) (toD (mb (frOf ρ))) = .ok k) : EC X C ρ .In a b (.bl k) ∧ EC X C ρ .NotIn a b (.bl (!k)) := by
  unfold inTR at q
  split at q
  · rename_i i ds q1 q2
    split at q
    · rename_i ns q3
      cases q
      have h2 := hb.ee (C := C) q2
      rw [intsOf_eq q3] at h2
      exact ec_inT (ha.ee q1) h2
    · cases q
  · rename_i z ds q1 q2
    split at q
    · rename_i ns q3
      cases q
      have h2 := hb.ee (C := C) q2
      rw [strsOf_eq q3] at h2
      exact ec_inTS (ha.ee q1) h2
    · cases q
  · cases q
theorem cm_inT (hu : X.A.units + 65 < cLine) (ha : EM X a ma) (hb : EM X b mb) : CM X .In a b (cInT ma mb) := .mk fun C ρ k q => (inTR_ok ha hb q).1
theorem cm_ninT (hu : X.A.units + 65 < cLine) (ha : EM X a ma) (hb : EM X b mb) : CM X .NotIn a b (cNotInT ma mb) := .mk fun C ρ k q => by
  obtain ⟨k', q', rfl⟩ := notR_ok q
  exact (inTR_ok ha hb q').2
/-! ### isinstance(x, (A, B)) -/
def isiTR (ms : List String) : R D → R RV
  | .ok d => (match d.tyN with
    | some n => .ok (.im (.bl (ms.any (tyB n))))
    | none => .bad)
  | _ => .bad
def eIsiT (m : MX) (ms : List String) : MX := fun E => isiTR ms (toD (m E))
theorem kitAny_ty {K : PySem.W.Frag} {n : String} : ∀ {ms : List String}, (∀ m ∈ ms, kitB n m = some (tyB n m)) → PySem.W.kitAny K (.type n) (ms.map Value.type) = some (ms.any (tyB n))
  | [], _ => rfl
  | m :: ms, h => by
    refine kitAny_cons (b := tyB n m) (kit_ty (h m List.mem_cons_self)) (fun z => ?_) fun z => ?_
    · rw [List.any_cons, z, Bool.false_or]
      exact kitAny_ty fun m hm => h m (List.mem_cons_of_mem _ hm)
    · rw [List.any_cons, z, Bool.true_or]
theorem em_isiT {p : Pos} {ms : List String} {x1 : Nat} {tp : Pos} (hm : X.mg "isinstance" = none) (ha : EM X a ma) (hb : ∀ C ρ, EA X C ρ es (ms.map fun m => .at (.ty m))) (h5 : ∀ m ∈ ms, m = "int" ∨ m = "bool" ∨ m = "str" ∨ m = "tuple" ∨ m = "list") (hg : Gl X "isinstance" := by rfl)
    (he : starEach [a, .Tuple es x1 tp] X.env = (false, eval a X.env) :: starEach [.Tuple es x1 tp] X.env := by exact se_of rfl) (he2 : starEach [.Tuple es x1 tp] X.env = (false, eval (.Tuple es x1 tp) X.env) :: starEach [] X.env := by exact se_of rfl)
    (hpl : (backTo pos (starEach [.Tuple es x1 tp] X.env)).any (·.1) = false := by rfl) (hl : ms.length ≤ sizeLine := by (show _ ≤ 16777216; decide)) : EM X (.Call (.Name "isinstance" p) [a, .Tuple es x1 tp] [] pos) (eIsiT ma ms) := .mk fun C ρ => by
  unfold eIsiT isiTR
  split
  · rename_i d q1
    split
    · rename_i n q2
      exact ee_isiT _ hm (ha.ee q1) (hb C ρ) q2 (kitAny_ty fun m hm => kit_ty6 q2 m (h5 m hm)) hg he he2 hpl hl
    · trivial
  · trivial
/-! ### calls without arguments -/
def noEr : R RV → R RV
  | .er _ => .bad
  | r => r
def eCall0 (f : List D → R Ret) : MX := fun _ => noEr (retV (f []))
theorem em_call0 {k : Nat} {x : Str} {f : List D → R Ret} (F : CalX X.prog X.w X.K X.mg X.base k x [] (spM X.K 0 f)) (hr : Room k X.A) (hg : Gl X x := by rfl) (hdb : (x == ("__debug__" : Str)) = false := by decide) : EM X (.Call (.Name x p) [] [] pos) (eCall0 f) := .mk fun C ρ => by
  unfold eCall0
  cases qf : f [] with
  | ok r =>
    have run : ∀ (Q : VK) (σ : L2.St) (H : Hp), SRel X.K C H σ ρ → (∀ v H2, Same H H2 → RetR X.K ⟨H, vis C (ows ρ) H, []⟩ H2 v r → Q v H2) → wpE X (.Call (.Name x p) [] [] pos) σ H Q := by
      intro Q σ H S q
      obtain ⟨g, fd, CX, hm, hk, hb, F, hx⟩ := F.cal.ex
      refine wpE_of (pe_call0 (dvs := []) F hr hg hm hk hb .nil (hx X rfl rfl) hdb) ?_
      refine ⟨vis C (ows ρ) H, ⟨[], rfl⟩, S.visIn, .nil, (by show notBad (f []); rw [qf]; trivial), fun r' v H2 hr2 s2 rr => ?_, fun z c H2 hr2 => ?_⟩
      · have hr3 : resOf (f []) = .ok r' := hr2
        rw [qf] at hr3
        cases hr3
        exact q v H2 s2 rr
      · have hr3 : resOf (f []) = .er z := hr2
        rw [qf] at hr3
        cases hr3
    cases r with
    | im d =>
      intro σ H S Q q
      exact run Q σ H S fun v H2 s2 rr => q v H2 s2 (Rep.mono (vis_callee (l := []) S.hh (fun a h => (S.fr a h).2) (fun _ z => absurd z List.not_mem_nil) s2) _ rr)
    | fr l =>
      intro σ H S Q q
      refine run Q σ H S fun v H2 s2 rr => ?_
      obtain ⟨a, xs, rfl, n, l, rs⟩ := rr
      have n' : H a = none := n
      refine q a xs H2 n' s2 l (Reps.mono (vis_callee (l := [a]) S.hh (fun a h => (S.fr a h).2) (fun b z => ?_) s2) _ rs)
      have e : b = a := by simpa using z
      rw [e]
      exact n'
  | er z => trivial
  | bad => trivial
end
/-! ### facts of the classes -/
def SubT (K : PySem.W.Frag) (a b : Str) (r : Bool) : Prop := ∃ Ca Cb, clsOf K a = some Ca ∧ clsOf K b = some Cb ∧ PySem.W.subIn K (.ref Ca) (.ref Cb) = some r ∧ PySem.W.subIn K (.ref Cb) (.ref Cb) = some true
def SubV (K : PySem.W.Frag) (a : Str) : Prop := ∃ Ca, clsOf K a = some Ca ∧ PySem.W.subIn K (.ref Ca) (.type "ValueError") = some true
theorem subT_mk {K : PySem.W.Frag} {a b : Str} {r : Bool} {Ca Cb : Addr} (h1 : PySem.W.nsIn K mainGlobals a = some (some (.ref Ca))) (h2 : PySem.W.nsIn K mainGlobals b = some (some (.ref Cb))) (h3 : PySem.W.subIn K (.ref Ca) (.ref Cb) = some r) (h4 : PySem.W.subIn K (.ref Cb) (.ref Cb) = some true) : SubT K a b r :=
  ⟨Ca, Cb, by unfold clsOf; rw [h1], by unfold clsOf; rw [h2], h3, h4⟩
theorem subV_mk {K : PySem.W.Frag} {a : Str} {Ca : Addr} (h1 : PySem.W.nsIn K mainGlobals a = some (some (.ref Ca))) (h3 : PySem.W.subIn K (.ref Ca) (.type "ValueError") = some true) : SubV K a := ⟨Ca, by unfold clsOf; rw [h1], h3⟩
section
variable {K : PySem.W.Frag} {mg : Str → Option Value}
theorem subOk_nil {cv : Value} : SubOk K cv [] := fun n b h => by cases h
theorem subOk_cons {cv : Value} {n : Str} {b : Bool} {L : List (Str × Bool)} (h : ∃ Cl, clsOf K n = some Cl ∧ ExcC K Cl ∧ PySem.W.kitOne K (.ref Cl) cv = some b) (r : SubOk K cv L) : SubOk K cv ((n, b) :: L) := fun n' b' q => by
  rw [List.lookup_cons] at q
  split at q
  · rename_i e
    have e' : n' = n := by simpa using e
    cases q
    rw [e']
    exact h
  · exact r n' b' q
theorem subOk_own {n x : Str} {B : Addr} {b : Bool} {L : List (Str × Bool)} (ta : ∃ Cl, ExcT K mg n Cl) (tb : ExcT K mg x B) (s : SubT K n x b) (r : SubOk K (.ref B) L) : SubOk K (.ref B) ((n, b) :: L) := subOk_cons (by
  obtain ⟨Cl, ta⟩ := ta
  obtain ⟨Ca, Cb, h1, h2, h3, h4⟩ := s
  have e1 := h1.symm.trans ta.nC
  have e2 := h2.symm.trans tb.nC
  cases e1
  cases e2
  exact ⟨_, h1, ta.ec, kit_own tb h4 h3⟩) r
theorem subOk_ve {n : Str} {L : List (Str × Bool)} (ta : ∃ Cl, ExcT K mg n Cl) (s : SubV K n) (r : SubOk K (.type "ValueError") L) : SubOk K (.type "ValueError") ((n, true) :: L) := subOk_cons (by
  obtain ⟨Cl, ta⟩ := ta
  obtain ⟨Ca, h1, h3⟩ := s
  have e1 := h1.symm.trans ta.nC
  cases e1
  exact ⟨_, h1, ta.ec, kit_ve h3⟩) r
theorem caught_nil {c : Addr} : ∀ n, ([] : List Str).contains n = true → ∀ Cl, clsOf K n = some Cl → PySem.W.exmOne K (.ref Cl) (.ref c) = some true := fun n h => by cases h
theorem caught_cons {c : Addr} {x n : Str} {L : List Str} (tb : ExcT K mg x c) (s : SubT K n x true) (r : ∀ n, L.contains n = true → ∀ Cl, clsOf K n = some Cl → PySem.W.exmOne K (.ref Cl) (.ref c) = some true) : ∀ n', (n :: L).contains n' = true → ∀ Cl, clsOf K n' = some Cl → PySem.W.exmOne K (.ref Cl) (.ref c) = some true := fun n' h Cl hC => by
  rw [List.contains_cons, Bool.or_eq_true] at h
  rcases h with h | h
  · have e : n' = n := by simpa using h
    subst e
    obtain ⟨Ca, Cb, h1, h2, h3, _⟩ := s
    have e1 := h1.symm.trans hC
    have e2 := h2.symm.trans tb.nC
    cases e1
    cases e2
    exact exm_own tb h3
  · exact r n' h Cl hC
end
end DL

namespace DL
open PySem PySem.Spec PyProof.Rows L2
/-! ### zip of a tuple and a list: sequences of either kind -/
def Sk (t : Bool) (g : Heap) (a : Addr) (xs : Array Value) : Prop := match t with
  | true => g.IsTuple a xs
  | false => g.IsList a xs
def Ik (t : Bool) (g : Heap) (i a : Addr) (n : Nat) : Prop := match t with
  | true => g.IsTupleIter i a n
  | false => g.IsListIter i a n
theorem Sk.ext {t : Bool} {g g' : Heap} {a c : Addr} {xs : Array Value} (h : Sk t g a xs) (e : Heap.ExtBut c g g') (n : a ≠ c) : Sk t g' a xs := by
  cases t with
  | true => exact Heap.IsTuple.extBut h e n
  | false => exact Heap.IsList.extBut h e n
theorem Ik.ext {t : Bool} {g g' : Heap} {i a c : Addr} {k : Nat} (h : Ik t g i a k) (e : Heap.ExtBut c g g') (n : i ≠ c) : Ik t g' i a k := by
  cases t with
  | true => exact Heap.IsTupleIter.extBut h e n
  | false => exact Heap.IsListIter.extBut h e n
theorem Ik.stay {t : Bool} {g g' : Heap} {i a : Addr} {k : Nat} (h : Ik t g i a k) (e : ∀ o, g.get? i = some o → g'.get? i = some o) : Ik t g' i a k := by
  cases t with
  | true => exact Heap.IsTupleIter.at h e
  | false => exact Heap.IsListIter.at h e
theorem Ik.obj {t : Bool} {g : Heap} {i a : Addr} {k : Nat} (h : Ik t g i a k) : ∃ o, g.get? i = some o ∧ o.data = .fields #[.ref a, .int k 0] := by
  cases t with
  | true => obtain ⟨o, e, _, d⟩ := h; exact ⟨o, e, d⟩
  | false => obtain ⟨o, e, _, d⟩ := h; exact ⟨o, e, d⟩
section
variable {prog : Program} {w : World} {A : Around} {Fx : Value → Shared → Prop} {s : Shared}
theorem step_on {t : Bool} {i a : Addr} {k : Nat} {xs : Array Value} {x : Value} {Q : Value → Shared → Prop} (h : Ik t s.heap i a k) (l : Sk t s.heap a xs) (e : xs[k]? = some x) (q : ∀ g, Ik t g i a (k + 1) → Heap.SameBut i s.heap g → Q x { s with heap := g }) :
    wpAny (model prog w) A (Builtin.SmallTypes.nextOf (.ref i)) Q Fx s := by
  cases t with
  | true => exact RZ.nextOf_tuple_item h l e q
  | false => exact wpAny_nextOf_list_item h l e q
theorem step_off {t : Bool} {i a : Addr} {k : Nat} {xs : Array Value} {Q : Value → Shared → Prop} (hh : A.handled = none) (h : Ik t s.heap i a k) (l : Sk t s.heap a xs) (e : xs[k]? = none)
    (q : ∀ g x, Heap.ExtBut i s.heap g → (∃ o, g.get? x = some o ∧ o.cls = .type "StopIteration") → Fx (.ref x) { s with heap := g }) : wpAny (model prog w) A (Builtin.SmallTypes.nextOf (.ref i)) Q Fx s := by
  cases t with
  | true => exact RZ.nextOf_tuple_end hh h l e q
  | false => exact wpAny_nextOf_list_end hh h l e q
/-- what the zip object, its two tuples and its two iterators are -/
structure Zp (t u : Bool) (g : Heap) (z p r i j a b : Addr) (k n : Nat) (v w : Value) : Prop where
  hz : IsZip g z p r .none
  hp : IsPair g p (.ref i) (.ref j)
  hr : IsPair g r v w
  hi : Ik t g i a k
  hj : Ik u g j b n
/-- another turn -/
structure Zq (t u : Bool) (g g' : Heap) (z p r i j a b : Addr) (k n : Nat) (x y : Value) : Prop where
  hz : IsZip g' z p r (rawInt g.objs.size)
  hr : IsPair g' r x y
  hi : Ik t g' i a (k + 1)
  hj : Ik u g' j b (n + 1)
  new : IsPair g' g.objs.size x y
  sz : g'.objs.size = g.objs.size + 1
  old : ∀ c o, c ≠ z → c ≠ r → c ≠ i → c ≠ j → g.get? c = some o → g'.get? c = some o
theorem zk_on {t u : Bool} {z p r i j a b : Addr} {k n : Nat} {xs ys : Array Value} {x y v w0 : Value} {Q : Value → Shared → Prop} (D : ZipApart z p r i j a b) (Z : Zp t u s.heap z p r i j a b k n v w0) (sa : Sk t s.heap a xs) (sb : Sk u s.heap b ys) (ex : xs[k]? = some x) (ey : ys[n]? = some y)
    (q : ∀ g, Zq t u s.heap g z p r i j a b k n x y → Q (.ref s.heap.objs.size) { s with heap := g }) : wpAny (model prog w) A (Builtin.«zip.__next__» ⟨[.ref z], []⟩) (fun fin s' => ∃ v, fin = .done (.ret v) ∧ Q v s') Fx s := by
  obtain ⟨zz, zp, zr, zi, zj⟩ := Z
  show wpAny _ _ (field (.ref z) 2 >>= _) _ _ _; refine wpAny_bind (wpAny_field zz rfl (x := .bool false) rfl ?_)
  show wpAny _ _ (field (.ref z) 3 >>= _) _ _ _; refine wpAny_bind (wpAny_field zz rfl (x := .ref p) rfl ?_)
  refine wpAny_bind (wpAny_seqItems zp rfl ?_)
  show wpAny _ _ (Builtin.SmallTypes.ownedTupleIsFree (.ref z) >>= _) _ _ _; refine wpAny_bind ?_
  unfold Builtin.SmallTypes.ownedTupleIsFree; refine wpAny_bind (wpAny_field zz rfl (x := .none) rfl (wpAny_pure ?_))
  simp only [if_true]; refine wpAny_bind (wpAny_rule ?_)
  refine wpAny_bind (wpAny_field zz rfl (x := .ref r) rfl ?_); refine wpAny_bind (wpAny_setField_rec zz (by simp) fun g1 z1 s1 => ?_)
  replace z1 : IsZip g1 z p r .ellipsis := z1
  refine wpAny_bind ?_; simp only [List.zipIdx_cons, List.zipIdx_nil, List.forIn_cons, List.forIn_nil]
  refine wpAny_bind (wpAny_bind (wpAny_onRaise ?_)); show wpAny _ _ (Builtin.SmallTypes.nextOf (.ref i) >>= _) _ _ _
  refine wpAny_bind (step_on (zi.ext s1.extBut D.i1z) (sa.ext s1.extBut D.l1z) ex fun g2 i2 s2 => wpAny_pure ?_)
  have r2 : IsPair g2 r v w0 := s2.extBut _ _ D.TOi1 (s1.extBut _ _ D.TOz zr)
  refine wpAny_bind (wpAny_seqItems r2 rfl ?_); refine wpAny_bind (wpAny_updateSeq_pair r2 fun g3 r3 s3 => ?_)
  replace r3 : IsPair g3 r x w0 := r3
  refine wpAny_bind (wpAny_letGo (wpAny_pure ?_)); refine wpAny_bind (wpAny_bind (wpAny_onRaise ?_)); show wpAny _ _ (Builtin.SmallTypes.nextOf (.ref j) >>= _) _ _ _
  refine wpAny_bind (step_on (((zj.ext s1.extBut D.i2z).ext s2.extBut D.i12.symm).ext s3.extBut D.TOi2.symm) (((sb.ext s1.extBut D.l2z).ext s2.extBut D.l2i1).ext s3.extBut D.l2TO) ey fun g4 j4 s4 => wpAny_pure ?_)
  have r4 : IsPair g4 r x w0 := s4.extBut _ _ D.TOi2 r3
  refine wpAny_bind (wpAny_seqItems r4 rfl ?_); refine wpAny_bind (wpAny_updateSeq_pair r4 fun g5 r5 s5 => ?_)
  replace r5 : IsPair g5 r x y := r5
  refine wpAny_bind (wpAny_letGo (wpAny_pure (wpAny_pure ?_))); refine wpAny_bind (wpAny_seqItems r5 rfl ?_)
  refine wpAny_bind (wpAny_newTuple ?_)
  have z0 : g5.objs.size = s.heap.objs.size := by rw [s5.1, s4.1, s3.1, s2.1, s1.1]
  have z5 : IsZip g5 z p r .ellipsis := s5.extBut _ _ D.TOz.symm (s4.extBut _ _ D.i2z.symm (s3.extBut _ _ D.TOz.symm (s2.extBut _ _ D.i1z.symm z1)))
  have k5 : ∀ c o, c ≠ z → c ≠ r → c ≠ i → c ≠ j → s.heap.get? c = some o → g5.get? c = some o := fun c o n1 n2 n3 n4 e => s5.extBut _ _ n2 (s4.extBut _ _ n4 (s3.extBut _ _ n2 (s2.extBut _ _ n3 (s1.extBut _ _ n1 e))))
  have i5 : Ik t g5 i a (k + 1) := ((i2.ext s3.extBut D.TOi1.symm).ext s4.extBut D.i12).ext s5.extBut D.TOi1.symm
  have j5 : Ik u g5 j b (n + 1) := j4.ext s5.extBut D.TOi2.symm
  have lz : z < g5.objs.size := Heap.lt_size z5
  show wpAny _ _ (Builtin.SmallTypes.ownedTupleHandOut (.ref z) (.ref g5.objs.size) >>= _) _ _ _; refine wpAny_bind ?_
  unfold Builtin.SmallTypes.ownedTupleHandOut
  have z6 : IsZip (g5.push { cls := .type "tuple", data := .seq #[x, y] }) z p r .ellipsis := Heap.get?_push_of_some _ z5
  refine wpAny_bind (wpAny_setField_rec z6 (by simp) fun g7 z7 s7 => ?_)
  replace z7 : IsZip g7 z p r (rawInt g5.objs.size) := z7
  refine wpAny_setField_rec z7 (by simp) fun g8 z8 s8 => ?_
  replace z8 : IsZip g8 z p r (rawInt g5.objs.size) := z8
  have up : ∀ c o, c ≠ z → g5.get? c = some o → g8.get? c = some o := fun c o n1 e => s8.extBut _ _ n1 (s7.extBut _ _ n1 (Heap.get?_push_of_some _ e))
  have t8 : IsPair g8 g5.objs.size x y := s8.extBut _ _ (Nat.ne_of_gt lz) (s7.extBut _ _ (Nat.ne_of_gt lz) (Heap.get?_push_size _ rfl))
  have l8 : g8.objs.size = g5.objs.size + 1 := by rw [s8.1, s7.1, Heap.size_push]
  rw [z0] at z8 t8 l8
  refine wpAny_pure ⟨_, rfl, ?_⟩; show Q (.ref g5.objs.size) _
  rw [z0]
  exact q g8 ⟨z8, up _ _ D.TOz r5, i5.stay fun o e => up _ o D.i1z e, j5.stay fun o e => up _ o D.i2z e, t8, l8, fun c o n1 n2 n3 n4 e => up c o n1 (k5 c o n1 n2 n3 n4 e)⟩
theorem zk_off {t u : Bool} {z p r i j a b : Addr} {k n : Nat} {xs ys : Array Value} {v w0 : Value} {Q : Fin → Shared → Prop} (hh : A.handled = none) (D : ZipApart z p r i j a b) (Z : Zp t u s.heap z p r i j a b k n v w0) (sa : Sk t s.heap a xs) (sb : Sk u s.heap b ys) (fin : xs[k]? = none ∨ ys[n]? = none)
    (q : ∀ g x, (∀ c o, c ≠ z → c ≠ r → c ≠ i → c ≠ j → s.heap.get? c = some o → g.get? c = some o) → (∃ o, g.get? x = some o ∧ o.cls = .type "StopIteration") → Fx (.ref x) { s with heap := g }) : wpAny (model prog w) A (Builtin.«zip.__next__» ⟨[.ref z], []⟩) Q Fx s := by
  obtain ⟨zz, zp, zr, zi, zj⟩ := Z
  show wpAny _ _ (field (.ref z) 2 >>= _) _ _ _; refine wpAny_bind (wpAny_field zz rfl (x := .bool false) rfl ?_)
  show wpAny _ _ (field (.ref z) 3 >>= _) _ _ _; refine wpAny_bind (wpAny_field zz rfl (x := .ref p) rfl ?_)
  refine wpAny_bind (wpAny_seqItems zp rfl ?_)
  show wpAny _ _ (Builtin.SmallTypes.ownedTupleIsFree (.ref z) >>= _) _ _ _; refine wpAny_bind ?_
  unfold Builtin.SmallTypes.ownedTupleIsFree; refine wpAny_bind (wpAny_field zz rfl (x := .none) rfl (wpAny_pure ?_))
  simp only [if_true]; refine wpAny_bind (wpAny_rule ?_)
  refine wpAny_bind (wpAny_field zz rfl (x := .ref r) rfl ?_); refine wpAny_bind (wpAny_setField_rec zz (by simp) fun g1 z1 s1 => ?_)
  replace z1 : IsZip g1 z p r .ellipsis := z1
  refine wpAny_bind ?_; simp only [List.zipIdx_cons, List.zipIdx_nil, List.forIn_cons, List.forIn_nil]
  refine wpAny_bind (wpAny_bind (wpAny_onRaise ?_)); show wpAny _ _ (Builtin.SmallTypes.nextOf (.ref i) >>= _) _ _ _
  cases ex : xs[k]? with
  | none =>
    refine wpAny_bind (step_off hh (zi.ext s1.extBut D.i1z) (sa.ext s1.extBut D.l1z) ex fun g2 x s2 he => ?_)
    obtain ⟨o, ho, hc⟩ := he
    have z2 : IsZip g2 z p r .ellipsis := s2 _ _ D.i1z.symm z1
    have nz : x ≠ z := fun e => by subst e; rw [z2] at ho; cases ho; simp at hc
    refine wpAny_setField_rec z2 (by simp) fun g3 _ s3 => q g3 x (fun c o n1 _ n3 _ e => s3.extBut _ _ n1 (s2 _ _ n3 (s1.extBut _ _ n1 e))) ⟨o, s3.extBut _ _ nz ho, hc⟩
  | some x0 =>
    have ey : ys[n]? = none := fin.elim (fun h => by rw [ex] at h; cases h) id
    refine wpAny_bind (step_on (zi.ext s1.extBut D.i1z) (sa.ext s1.extBut D.l1z) ex fun g2 i2 s2 => wpAny_pure ?_)
    have r2 : IsPair g2 r v w0 := s2.extBut _ _ D.TOi1 (s1.extBut _ _ D.TOz zr)
    refine wpAny_bind (wpAny_seqItems r2 rfl ?_); refine wpAny_bind (wpAny_updateSeq_pair r2 fun g3 r3 s3 => ?_)
    refine wpAny_bind (wpAny_letGo (wpAny_pure ?_)); refine wpAny_bind (wpAny_bind (wpAny_onRaise ?_)); show wpAny _ _ (Builtin.SmallTypes.nextOf (.ref j) >>= _) _ _ _
    refine wpAny_bind (step_off hh (((zj.ext s1.extBut D.i2z).ext s2.extBut D.i12.symm).ext s3.extBut D.TOi2.symm) (((sb.ext s1.extBut D.l2z).ext s2.extBut D.l2i1).ext s3.extBut D.l2TO) ey fun g4 x s4 he => ?_)
    obtain ⟨o, ho, hc⟩ := he
    have z4 : IsZip g4 z p r .ellipsis := s4 _ _ D.i2z.symm (s3.extBut _ _ D.TOz.symm (s2.extBut _ _ D.i1z.symm z1))
    have nz : x ≠ z := fun e => by subst e; rw [z4] at ho; cases ho; simp at hc
    refine wpAny_setField_rec z4 (by simp) fun g5 _ s5 => q g5 x (fun c o n1 n2 n3 n4 e => s5.extBut _ _ n1 (s4 _ _ n4 (s3.extBut _ _ n2 (s2.extBut _ _ n3 (s1.extBut _ _ n1 e))))) ⟨o, s5.extBut _ _ nz ho, hc⟩
theorem zk_go {t u : Bool} {z p r i j a b : Addr} {k n : Nat} {xs ys : Array Value} {x y v w0 : Value} {Q : Option Value → Shared → Prop} (D : ZipApart z p r i j a b) (Z : Zp t u s.heap z p r i j a b k n v w0) (sa : Sk t s.heap a xs) (sb : Sk u s.heap b ys) (ex : xs[k]? = some x) (ey : ys[n]? = some y)
    (q : ∀ g, Zq t u s.heap g z p r i j a b k n x y → Q (some (.ref s.heap.objs.size)) { s with heap := g }) : wpAny (model prog w) A (pyNext (.ref z)) Q Fx s := by
  have ty : s.TypeIs (.ref z) "zip" := ⟨_, Z.hz, rfl⟩
  unfold pyNext
  exact wpAny_bind (wpAny_attempt (wpAny_callSpecial?_slot (name := Str.ofString "__next__") ty F.slot_zip_next (wpAny_call_entry F.slot_zip_next ty F.entry_zip_next (zk_on D Z sa sb ex ey fun g h => wpAny_pure (q g h)) (F.args_zip_next_1 _))))
theorem zk_stop {t u : Bool} {z p r i j a b : Addr} {k n : Nat} {xs ys : Array Value} {v w0 : Value} {Q : Option Value → Shared → Prop} (hh : A.handled = none) (D : ZipApart z p r i j a b) (Z : Zp t u s.heap z p r i j a b k n v w0) (sa : Sk t s.heap a xs) (sb : Sk u s.heap b ys) (fin : xs[k]? = none ∨ ys[n]? = none)
    (q : ∀ g, (∀ c o, c ≠ z → c ≠ r → c ≠ i → c ≠ j → s.heap.get? c = some o → g.get? c = some o) → Q none { s with heap := g }) : wpAny (model prog w) A (pyNext (.ref z)) Q Fx s := by
  have ty : s.TypeIs (.ref z) "zip" := ⟨_, Z.hz, rfl⟩
  unfold pyNext
  refine wpAny_bind (wpAny_attempt (wpAny_callSpecial?_slot (name := Str.ofString "__next__") ty F.slot_zip_next (wpAny_call_entry F.slot_zip_next ty F.entry_zip_next (zk_off hh D Z sa sb fin fun g x hk hx => ?_) (F.args_zip_next_1 _))))
  obtain ⟨o, ho, hc⟩ := hx
  exact wpAny_bind (wpAny_isInstance (T := "StopIteration") (b := true) ⟨o, ho, hc⟩ isSubtype_stop (wpAny_pure (q _ hk)))
end
/-- a new iterator -/
def itO (t : Bool) (a : Addr) : Obj := { cls := .type (if t = true then "tuple_iterator" else "list_iterator"), data := .fields #[.ref a, .int 0 0] }
abbrev zg1 (t : Bool) (g : Heap) (a : Addr) : Heap := g.push (itO t a)
abbrev zg2 (t u : Bool) (g : Heap) (a b : Addr) : Heap := (zg1 t g a).push (itO u b)
abbrev zg3 (t u : Bool) (g : Heap) (a b : Addr) : Heap := (zg2 t u g a b).push { cls := .type "tuple", data := .seq #[.ref g.objs.size, .ref (zg1 t g a).objs.size] }
abbrev zg4 (t u : Bool) (g : Heap) (a b : Addr) : Heap := (zg3 t u g a b).push { cls := .type "tuple", data := .seq #[.none, .none] }
abbrev zg5 (t u : Bool) (g : Heap) (a b : Addr) : Heap := (zg4 t u g a b).push { cls := .type "zip", data := .fields #[.none, .bool false, .bool false, .ref (zg2 t u g a b).objs.size, .ref (zg3 t u g a b).objs.size] }
theorem zk_newTL (a b : Addr) (xs ys : Array Value) : Meets (Builtin.«zip.__new__» ⟨[.type "zip", .ref a, .ref b], []⟩) (fun _ R s => s.heap.IsTuple a xs ∧ s.heap.IsList b ys ∧ R (.ok (.ret (.ref (zg4 true false s.heap a b).objs.size))) { s with heap := zg5 true false s.heap a b }) :=
  .of_wp fun prog w A R s h => by
    obtain ⟨hp, g, d, tk, os⟩ := s; obtain ⟨ha, hb, h⟩ := h; have hsub := sub_zip
    have la : Heap.IsTuple (Shared.heap ⟨hp, g, d, tk, os⟩) a xs := ha
    have lb : Heap.IsList (Shared.heap ⟨hp.push { cls := .type "tuple_iterator", data := .fields #[.ref a, .int 0 0] }, g, d, tk, os⟩) b ys := Heap.IsList.push hb _
    wp_walk using wpAny_pyIter_tuple la, wpAny_pyIter_list lb
    exact ⟨_, rfl, h⟩
theorem zk_newLT (a b : Addr) (xs ys : Array Value) : Meets (Builtin.«zip.__new__» ⟨[.type "zip", .ref a, .ref b], []⟩) (fun _ R s => s.heap.IsList a xs ∧ s.heap.IsTuple b ys ∧ R (.ok (.ret (.ref (zg4 false true s.heap a b).objs.size))) { s with heap := zg5 false true s.heap a b }) :=
  .of_wp fun prog w A R s h => by
    obtain ⟨hp, g, d, tk, os⟩ := s; obtain ⟨ha, hb, h⟩ := h; have hsub := sub_zip
    have la : Heap.IsList (Shared.heap ⟨hp, g, d, tk, os⟩) a xs := ha
    have lb : Heap.IsTuple (Shared.heap ⟨hp.push { cls := .type "list_iterator", data := .fields #[.ref a, .int 0 0] }, g, d, tk, os⟩) b ys := Heap.IsTuple.push hb _
    wp_walk using wpAny_pyIter_list la, wpAny_pyIter_tuple lb
    exact ⟨_, rfl, h⟩
section
variable {prog : Program} {w : World} {A : Around} {Fx : Value → Shared → Prop} {s : Shared}
theorem zk_call {t u : Bool} {a b : Addr} {xs ys : Array Value} {Q : Value → Shared → Prop} (hne : t = !u) (sa : Sk t s.heap a xs) (sb : Sk u s.heap b ys)
    (q : ∀ g, Zp t u g (s.heap.objs.size + 4) (s.heap.objs.size + 2) (s.heap.objs.size + 3) s.heap.objs.size (s.heap.objs.size + 1) a b 0 0 .none .none → (∀ c o, s.heap.get? c = some o → g.get? c = some o) → Q (.ref (s.heap.objs.size + 4)) { s with heap := g }) :
    wpAny (model prog w) A (call (.type "zip") [.ref a, .ref b]) Q Fx s := by
  have M : Meets (Builtin.«zip.__new__» ⟨[.type "zip", .ref a, .ref b], []⟩) (fun _ R s => Sk t s.heap a xs ∧ Sk u s.heap b ys ∧ R (.ok (.ret (.ref (zg4 t u s.heap a b).objs.size))) { s with heap := zg5 t u s.heap a b }) := by
    cases u with
    | true => subst hne; exact zk_newLT a b xs ys
    | false => subst hne; exact zk_newTL a b xs ys
  refine callType_new F.called_zip (by decide) (F.typeCall_zip_2 _ _) (F.newCall_zip_2 _ _) (fun obj => F.args_object_init_3 obj _ _) F.entry_zip_new M ⟨sa, sb, ?_⟩
  have n1 : (zg1 t s.heap a).objs.size = s.heap.objs.size + 1 := Heap.size_push ..
  have n2 : (zg2 t u s.heap a b).objs.size = s.heap.objs.size + 2 := by rw [Heap.size_push, n1]
  have n3 : (zg3 t u s.heap a b).objs.size = s.heap.objs.size + 3 := by rw [Heap.size_push, n2]
  have n4 : (zg4 t u s.heap a b).objs.size = s.heap.objs.size + 4 := by rw [Heap.size_push, n3]
  have e5 : (zg5 t u s.heap a b).get? (zg4 t u s.heap a b).objs.size = some _ := Heap.get?_push_size _ rfl
  have e4 : (zg5 t u s.heap a b).get? (zg3 t u s.heap a b).objs.size = some _ := Heap.get?_push_of_some _ (Heap.get?_push_size _ rfl)
  have e3 : (zg5 t u s.heap a b).get? (zg2 t u s.heap a b).objs.size = some _ := Heap.get?_push_of_some _ (Heap.get?_push_of_some _ (Heap.get?_push_size _ rfl))
  have e2 : (zg5 t u s.heap a b).get? (zg1 t s.heap a).objs.size = some (itO u b) := Heap.get?_push_of_some _ (Heap.get?_push_of_some _ (Heap.get?_push_of_some _ (Heap.get?_push_size _ rfl)))
  have e1 : (zg5 t u s.heap a b).get? s.heap.objs.size = some (itO t a) := Heap.get?_push_of_some _ (Heap.get?_push_of_some _ (Heap.get?_push_of_some _ (Heap.get?_push_of_some _ (Heap.get?_push_size _ rfl))))
  show _ ∧ _
  rw [n2, n3, n4] at e5
  rw [n1, n2] at e3
  rw [n3] at e4; rw [n1] at e2
  rw [n4]
  have ik : ∀ (t : Bool) (g : Heap) (i a : Addr), g.get? i = some (itO t a) → Ik t g i a 0 := fun t g i a e => by
    cases t with
    | true => exact ⟨_, e, rfl, rfl⟩
    | false => exact ⟨_, e, rfl, rfl⟩
  exact ⟨⟨_, e5, rfl⟩, q _ ⟨e5, e3, e4, ik _ _ _ _ e1, ik _ _ _ _ e2⟩ fun c o x => Heap.get?_push_of_some _ (Heap.get?_push_of_some _ (Heap.get?_push_of_some _ (Heap.get?_push_of_some _ (Heap.get?_push_of_some _ x))))⟩
end
/-- a sequence in the heap, of either kind -/
def SqK (K : PySem.W.Frag) (t : Bool) (H : Hp) (a : Addr) (xs : List V) : Prop := match t with
  | true => SqT K H a xs
  | false => SqL K H a xs
def ItzM (K : PySem.W.Frag) (t u : Bool) (a b : Addr) : It :=
  ⟨fun i H => ∃ (xs ys : List V) (x y : V), SqK K t H a xs ∧ SqK K u H b ys ∧ xs[i]? = some x ∧ ys[i]? = some y,
    fun i H v H' => ∃ T x y, v = .ref T ∧ H T = none ∧ H' = upd H T (.tup [x, y]) ∧ (∀ xs, SqK K t H a xs → xs[i]? = some x) ∧ ∀ ys, SqK K u H b ys → ys[i]? = some y,
    fun i H => ∃ xs ys : List V, SqK K t H a xs ∧ SqK K u H b ys ∧ (xs.length ≤ i ∨ ys.length ≤ i)⟩
theorem sk_of {X : Cx} {pins : List (Addr × Obj)} {σ : L2.St} {H : Hp} {s : Shared} (I : Inv X pins σ H s) {t : Bool} {a : Addr} {xs : List V} (h : SqK X.K t H a xs) : ∃ us : List Value, Vals xs us ∧ Sk t s.heap a us.toArray := by
  cases t with
  | true => obtain ⟨us, r, p, _⟩ := I.tuple h; exact ⟨us, r, p⟩
  | false => obtain ⟨us, r, p, _⟩ := I.list h; exact ⟨us, r, p.isList⟩
theorem sk_inj {X : Cx} {pins : List (Addr × Obj)} {σ : L2.St} {H : Hp} {s : Shared} (I : Inv X pins σ H s) {t : Bool} {a : Addr} {xs ys : List V} (h : SqK X.K t H a xs) (k : SqK X.K t H a ys) : xs = ys := by
  cases t with
  | true => exact I.tuple_inj h k
  | false => exact I.list_inj h k
theorem turn_zipM {P : Program} {w : World} {K : PySem.W.Frag} {t u : Bool} {elts : List Expr} {kk : Nat} {tpos : Pos} {a b z p r i1 i2 : Addr} (D : ZipApart z p r i1 i2 a b) :
    Turn P w K (.Tuple elts kk tpos) (ItzM K t u a b) [z, p, r, i1, i2] z (fun n g => ∃ x y, Zp t u g z p r i1 i2 a b n n x y) where
  mem := by simp
  obj := fun n g st c hc => by
    obtain ⟨x, y, zz, zp, zr, zi, zj⟩ := st
    obtain ⟨o1, e1, d1⟩ := zi.obj
    obtain ⟨o2, e2, d2⟩ := zj.obj
    have e : c = z ∨ c = p ∨ c = r ∨ c = i1 ∨ c = i2 := by simpa using hc
    rcases e with rfl | rfl | rfl | rfl | rfl
    · exact ⟨_, zz, fun v q => nomatch q⟩
    · exact ⟨_, zp, fun v q => nomatch q⟩
    · exact ⟨_, zr, fun v q => nomatch q⟩
    · exact ⟨o1, e1, fun v q => by rw [d1] at q; cases q⟩
    · exact ⟨o2, e2, fun v q => by rw [d2] at q; cases q⟩
  keep := fun n g g' st k => by
    obtain ⟨x, y, zz, zp, zr, zi, zj⟩ := st
    exact ⟨x, y, k z (by simp) _ zz, k p (by simp) _ zp, k r (by simp) _ zr, zi.stay fun o q => k i1 (by simp) o q, zj.stay fun o q => k i2 (by simp) o q⟩
  item := by
    intro X hP hw hK hc n pins s σ H E I hf st hg
    subst hP hw hK
    obtain ⟨x0, y0, Z⟩ := st
    obtain ⟨xs, ys, x, y, qx, qy, hx, hy⟩ := hg
    obtain ⟨us, rx, px⟩ := sk_of I qx
    obtain ⟨vs, ry, py⟩ := sk_of I qy
    obtain ⟨u1, hu, ru⟩ := rx.get hx
    obtain ⟨v1, hv, rv⟩ := ry.get hy
    have lz : z < s.heap.objs.size := Heap.lt_size Z.hz
    refine zk_go D Z px py (x := u1) (y := v1) (by simpa using hu) (by simpa using hv) fun g W => ⟨_, rfl, wpAny_letOwnedTupleGo_zip (s := { s with heap := g }) W.hz fun g' z' sb => ?_⟩
    have hT : g'.get? s.heap.objs.size = some { cls := .type "tuple", data := .seq #[u1, v1] } := (sb.2 _ (Nat.ne_of_gt lz)).trans W.new
    have ok : ObjOk X.prog X.w (upd H s.heap.objs.size (.tup [x, y])) g' s.heap.objs.size (.tup [x, y]) := ⟨by show 2 ≤ sizeLine; decide, [u1, v1], .cons ru (.cons rv .nil), ⟨_, hT, rfl, _, rfl⟩⟩
    have I1 : Inv X pins σ (upd H s.heap.objs.size (.tup [x, y])) { s with heap := g' } := I.turnedNew (t' := s.toks) (ch := [z, p, r, i1, i2])
      (fun c o hb q => (sb.2 c (fun q' => hb (by simp [q']))).trans (W.old c o (fun q' => hb (by simp [q'])) (fun q' => hb (by simp [q'])) (fun q' => hb (by simp [q'])) (fun q' => hb (by simp [q'])) q)) hf (Nat.le_refl _) ok
    refine ⟨.ref s.heap.objs.size, _, I1, rfl, ⟨_, x, y, rfl, I.hok.fresh (Nat.le_refl _), rfl, fun l hl => by rw [sk_inj I hl qx]; exact hx, fun l hl => by rw [sk_inj I hl qy]; exact hy⟩,
      ⟨u1, v1, z', (sb.2 _ D.TIz).trans (W.old _ _ D.TIz D.TITO D.TIi1 D.TIi2 Z.hp), (sb.2 _ D.TOz).trans W.hr, W.hi.stay fun o q => (sb.2 _ D.i1z).trans q, W.hj.stay fun o q => (sb.2 _ D.i2z).trans q⟩, fun c hcm => ?_⟩
    have lt : c < s.heap.objs.size := by
      obtain ⟨_, e1, _⟩ := Z.hi.obj
      obtain ⟨_, e2, _⟩ := Z.hj.obj
      have e : c = z ∨ c = p ∨ c = r ∨ c = i1 ∨ c = i2 := by simpa using hcm
      rcases e with rfl | rfl | rfl | rfl | rfl
      · exact lz
      · exact Heap.lt_size Z.hp
      · exact Heap.lt_size Z.hr
      · exact Heap.lt_size e1
      · exact Heap.lt_size e2
    rw [upd_ne (Nat.ne_of_lt lt)]; exact (hf c hcm).1
  done := by
    intro X hP hw hK hc n pins s σ H E I hf st hg
    subst hP hw hK
    obtain ⟨x0, y0, Z⟩ := st
    obtain ⟨xs, ys, qx, qy, fin⟩ := hg
    obtain ⟨us, rx, px⟩ := sk_of I qx
    obtain ⟨vs, ry, py⟩ := sk_of I qy
    have l1 := rx.length
    have l2 := ry.length
    have no : us.toArray[n]? = none ∨ vs.toArray[n]? = none := fin.imp (fun q => by simp; omega) fun q => by simp; omega
    exact zk_stop (I.ok.hd hc) D Z px py no fun g hk => ⟨rfl, I.turnedL (t' := s.toks) (ch := [z, p, r, i1, i2]) (fun c o hb q => hk c o (fun q' => hb (by simp [q'])) (fun q' => hb (by simp [q'])) (fun q' => hb (by simp [q'])) (fun q' => hb (by simp [q'])) q) hf⟩
  self := fun A n s Q E st h => by obtain ⟨_, _, Z⟩ := st; exact wpAny_pyIter_zip Z.hz h
section
variable {X : Cx} {C : Ctx} {ρ : Rho} {e a b tg : Expr} {ma mb : MX} {ds es' : List D} {pos p tpos : Pos} {elts : List Expr} {kk : Nat}
def iZipM (K : PySem.W.Frag) (ta : TA) : TI := fun σ H R => ta σ H fun vs H1 => ∃ a b xs ys t u, vs = [.ref a, .ref b] ∧ t = !u ∧ SqK K t H1 a xs ∧ SqK K u H1 b ys ∧ R (ItzM K t u a b) H1
theorem pi_zipM {ta : TA} (hg : Gl X "zip") (hm : X.mg "zip" = none) (ha : PA X [a, b] ta) (hs : starEach [a, b] X.env = (false, eval a X.env) :: starEach [b] X.env := by exact se_of rfl) (hpl : (backTo pos (starEach [b] X.env)).any (·.1) = false := by rfl) :
    PI X (.Tuple elts kk tpos) (.Call (.Name "zip" p) [a, b] [] pos) (iZipM X.K ta) := by
  refine ⟨fun pins s σ H R I h => Call_ (ld_blt I hg hm PyProof.Rows.boot_zip (PyProof.Rows.callWith_type1 (thn (ha.run pos pins s σ H _ I h) fun us s1 ⟨vs, H1, I1, r1, q1⟩ => ?_) hs hpl))⟩
  obtain ⟨l, m, xs, ys, t, u, ex, hne, qx, qy, q⟩ := q1
  subst ex
  obtain ⟨va, vb, rfl, ra, rb⟩ := vals2 r1
  cases (show va = Value.ref l from ra)
  cases (show vb = Value.ref m from rb)
  obtain ⟨us, rx, px⟩ := sk_of I1 qx
  obtain ⟨vs, ry, py⟩ := sk_of I1 qy
  have lt : ∀ {t : Bool} {a : Addr} {zs : Array Value}, Sk t s1.heap a zs → a < s1.heap.objs.size := fun {t a zs} h => by
    cases t with
    | true => obtain ⟨o, ho, _⟩ := h; exact Heap.lt_size ho
    | false => obtain ⟨o, ho, _⟩ := h; exact Heap.lt_size ho
  refine zk_call hne px py fun g Z hk => wpAny_pyIter_zip Z.hz ?_
  refine ⟨s1.heap.objs.size + 4, [s1.heap.objs.size + 4, s1.heap.objs.size + 2, s1.heap.objs.size + 3, s1.heap.objs.size, s1.heap.objs.size + 1], _, _, H1, rfl, I1.kept (t' := s1.toks) hk, turn_zipM (PySem.W.ktu_apart s1.heap.objs.size l m (lt px) (lt py)), ⟨_, _, Z⟩, fun c hc => ?_, q⟩
  have e : c = s1.heap.objs.size + 4 ∨ c = s1.heap.objs.size + 2 ∨ c = s1.heap.objs.size + 3 ∨ c = s1.heap.objs.size ∨ c = s1.heap.objs.size + 1 := by simpa using hc
  have le : s1.heap.objs.size ≤ c := by
    rcases e with z | z | z | z | z
    · rw [z]; exact Nat.le_add_right _ _
    · rw [z]; exact Nat.le_add_right _ _
    · rw [z]; exact Nat.le_add_right _ _
    · rw [z]; exact Nat.le_refl _
    · rw [z]; exact Nat.le_add_right _ _
  exact I1.fpOk le (I1.hok.fresh le)
theorem SqK.mono {K : PySem.W.Frag} {t : Bool} {H H' : Hp} {a : Addr} {xs : List V} (e : Same H H') (h : SqK K t H a xs) : SqK K t H' a xs := by
  cases t with
  | true => exact Same.seqT e h
  | false => exact e.seq h
theorem yl_zipM {K : PySem.W.Frag} {t u : Bool} {V0 : Hp} {a b : Addr} {xs ys : List V} {ds es : List D} (sq : SqK K t V0 a xs) (r : Reps K V0 xs ds) (sq2 : SqK K u V0 b ys) (r2 : Reps K V0 ys es) : Yl K V0 (ItzM K t u a b) (zipD ds es) where
  go := fun C o H i l hi => by
    rw [zipD_len] at hi
    obtain ⟨v, h1, _⟩ := r.get (List.getElem?_eq_getElem (show i < ds.length by omega))
    obtain ⟨w, h2, _⟩ := r2.get (List.getElem?_eq_getElem (show i < es.length by omega))
    exact ⟨xs, ys, v, w, sq.mono l.all, sq2.mono l.all, h1, h2⟩
  yl := fun C o H i x H' l hi y => by
    rw [zipD_len] at hi
    obtain ⟨T, v, w, rfl, hT, rfl, f1, f2⟩ := y
    obtain ⟨v', h1, q1⟩ := r.get (List.getElem?_eq_getElem (show i < ds.length by omega))
    obtain ⟨w', h2, q2⟩ := r2.get (List.getElem?_eq_getElem (show i < es.length by omega))
    cases h1.symm.trans (f1 xs (sq.mono l.all))
    cases h2.symm.trans (f2 ys (sq2.mono l.all))
    exact ⟨_, zipD_get (List.getElem?_eq_getElem _) (List.getElem?_eq_getElem _), same_upd hT, yl_pair l hT q1 q2⟩
  stop := fun C o H l => ⟨xs, ys, sq.mono l.all, sq2.mono l.all, by rw [zipD_len, r.length, r2.length]; omega⟩
theorem ei_zipTL (hm : X.mg "zip" = none) (ha : EE X C ρ a (.tup ds)) (hb : EE X C ρ b (.lst es')) (hg : Gl X "zip" := by rfl) (hs : starEach [a, b] X.env = (false, eval a X.env) :: starEach [b] X.env := by exact se_of rfl) (hs2 : starEach [b] X.env = (false, eval b X.env) :: starEach [] X.env := by exact se_of rfl) (hpl : (backTo pos (starEach [b] X.env)).any (·.1) = false := by rfl) :
    EI X C ρ (.Tuple elts kk tpos) (.Call (.Name "zip" p) [a, b] [] pos) (zipD ds es') := fun σ H S R q =>
  wpI_of (pi_zipM hg hm (pa_cons pe_wp (pa_cons pe_wp pa_nil hs2) hs) hs hpl) (ha σ H S _ fun v H1 s1 r1 => hb σ H1 (S.same s1) _ fun u H2 s2 r2 => by
    cases r1 with
    | tup sq rs =>
      cases r2 with
      | lst sq2 rs2 =>
        have m := vis_same (C := C) (o := ows ρ) s2
        have i2 := ((S.same s1).same s2).visIn
        exact ⟨_, _, _, _, true, false, rfl, rfl, Same.seqT i2 (Same.seqT m (tq sq)), i2.seq sq2, q _ H2 (s1.trans s2) (yl_zipM (t := true) (u := false) (Same.seqT m (tq sq)) (Reps.mono m _ rs) sq2 rs2)⟩)
theorem ei_zipLT (hm : X.mg "zip" = none) (ha : EE X C ρ a (.lst ds)) (hb : EE X C ρ b (.tup es')) (hg : Gl X "zip" := by rfl) (hs : starEach [a, b] X.env = (false, eval a X.env) :: starEach [b] X.env := by exact se_of rfl) (hs2 : starEach [b] X.env = (false, eval b X.env) :: starEach [] X.env := by exact se_of rfl) (hpl : (backTo pos (starEach [b] X.env)).any (·.1) = false := by rfl) :
    EI X C ρ (.Tuple elts kk tpos) (.Call (.Name "zip" p) [a, b] [] pos) (zipD ds es') := fun σ H S R q =>
  wpI_of (pi_zipM hg hm (pa_cons pe_wp (pa_cons pe_wp pa_nil hs2) hs) hs hpl) (ha σ H S _ fun v H1 s1 r1 => hb σ H1 (S.same s1) _ fun u H2 s2 r2 => by
    cases r1 with
    | lst sq rs =>
      cases r2 with
      | tup sq2 rs2 =>
        have m := vis_same (C := C) (o := ows ρ) s2
        have i2 := ((S.same s1).same s2).visIn
        exact ⟨_, _, _, _, false, true, rfl, rfl, i2.seq (m.seq sq), Same.seqT i2 (tq sq2), q _ H2 (s1.trans s2) (yl_zipM (t := false) (u := true) (m.seq sq) (Reps.mono m _ rs) (tq sq2) rs2)⟩)
/-- zip of lists and tuples -/
def zipAR : R D → R D → R (List D)
  | .ok (.lst xs), .ok (.lst ys) => .ok (zipD xs ys)
  | .ok (.tup xs), .ok (.tup ys) => .ok (zipD xs ys)
  | .ok (.tup xs), .ok (.lst ys) => .ok (zipD xs ys)
  | .ok (.lst xs), .ok (.tup ys) => .ok (zipD xs ys)
  | _, _ => .bad
def iZipA (ma mb : MX) : Fr → R (List D) := fun E => zipAR (toD (ma E)) (toD (mb E))
theorem im_zipA (hm : X.mg "zip" = none) (ha : EM X a ma) (hb : EM X b mb) (hg : Gl X "zip" := by rfl) (hs : starEach [a, b] X.env = (false, eval a X.env) :: starEach [b] X.env := by exact se_of rfl) (hs2 : starEach [b] X.env = (false, eval b X.env) :: starEach [] X.env := by exact se_of rfl)
    (hpl : (backTo pos (starEach [b] X.env)).any (·.1) = false := by rfl) : IM X (.Tuple elts kk tpos) (.Call (.Name "zip" p) [a, b] [] pos) (iZipA ma mb) := .mk fun C ρ ds q => by
  unfold iZipA zipAR at q
  split at q
  · rename_i q1 q2; cases q; exact ei_zipL hm (ha.ee q1) (hb.ee q2) hg hs hs2 hpl
  · rename_i q1 q2; cases q; exact ei_zipT hm (ha.ee q1) (hb.ee q2) hg hs hs2 hpl
  · rename_i q1 q2; cases q; exact ei_zipTL hm (ha.ee q1) (hb.ee q2) hg hs hs2 hpl
  · rename_i q1 q2; cases q; exact ei_zipLT hm (ha.ee q1) (hb.ee q2) hg hs hs2 hpl
  · cases q
end
end DL

namespace DL
open PySem PySem.Spec PyProof.Rows L2
/-! ### evaluation, rule by rule -/
def ifF (r : R Bool) (f g : Fr → O) (E : Fr) : O := match r with | .ok true => f E | .ok false => g E | _ => .bad
def setV (i : Nat) (r : R RV) (E : Fr) : O := match r with | .ok (.im d) => .nx (setS E i (.im d)) | .ok (.fr ds) => .nx (setS E i (.im (.lst ds))) | .ok (.ro _) => .bad | .er n => .er n E | .bad => .bad
def setOV (i : Nat) (r : R RV) (E : Fr) : O := match r with | .ok (.im d) => .nx (setS E i (.im d)) | .ok (.fr ds) => .nx (setS E i (.ow ds)) | .ok (.ro _) => .bad | .er n => .er n E | .bad => .bad
def retMV (r : R RV) (E : Fr) : O := match r with | .ok (.im d) => .rt (.im d) | .ok (.fr ds) => .rt (.fr ds) | .ok (.ro _) => .bad | .er n => .er n E | .bad => .bad
def retS (s : Sl) : O := match s with | .im d => .rt (.im d) | .ow ds => .rt (.fr ds) | _ => .bad
def asgS (r : R (List (Nat × D))) (E : Fr) : O := match r with | .ok ss => .nx (setsF E ss) | _ => .bad
def asgV (g : D → R (List (Nat × D))) (r : R RV) (E : Fr) : O := match r with | .ok (.im d) => asgS (g d) E | .ok (.fr ds) => asgS (g (.lst ds)) E | .ok (.ro _) => .bad | .er n => .er n E | .bad => .bad
def augV (i : Nat) (s : Sl) (r : R D) (E : Fr) : O := match s with | .im (.at (.int n)) => (match r with | .ok (.at (.int k)) => .nx (setS E i (.im (.int (n + k)))) | _ => .bad) | _ => .bad
def appV (i : Nat) (s : Sl) (r : R D) (E : Fr) : O := match s with | .ow ds => (match r with | .ok d => if ds.length < sizeLine then .nx (setS E i (.ow (ds ++ [d]))) else .bad | _ => .bad) | _ => .bad
def setIxV (i : Nat) (s : Sl) (rk r : R D) (E : Fr) : O := match s with | .ow ds => (match rk with | .ok (.at (.int j)) => (match ixN ds.length j with | some n => (match r with | .ok d => .nx (setS E i (.ow (ds.set n d))) | _ => .bad) | none => .bad) | _ => .bad) | _ => .bad
def popV (i : Nat) (s : Sl) (E : Fr) : O := match s with | .ow ds => if ds.isEmpty = true then .bad else .nx (setS E i (.ow ds.dropLast)) | _ => .bad
def parV (i j : Nat) (r : R (List D)) (E : Fr) : O := match r with | .ok [d1, d2] => .nx (setS (setS E i (.im d1)) j (.im d2)) | _ => .bad
def forV (g : D → R (List (Nat × D))) (f : Fr → O) (r : R (List D)) (E : Fr) : O := match r with | .ok ds => forN g f ds E | _ => .bad
def dropV (r : R RV) (E : Fr) : O := match r with | .ok (.ro _) => .bad | .ok _ => .nx E | .er n => .er n E | .bad => .bad
def varV (s : Sl) : R RV := match s with | .im d => .ok (.im d) | .ow ds => .ok (.ro ds) | _ => .bad
def un1 (f : D → R RV) (r : R D) : R RV := match r with | .ok x => f x | _ => .bad
def bi2 (f : D → D → R RV) (r s : R D) : R RV := match r with | .ok x => (match s with | .ok y => f x y | _ => .bad) | _ => .bad
def cb2 (f : D → D → R Bool) (r s : R D) : R Bool := match r with | .ok x => (match s with | .ok y => f x y | _ => .bad) | _ => .bad
def addV (r s : R RV) : R RV := match toL r with | .ok xs => (match toL s with | .ok ys => if xs.length + ys.length ≤ sizeLine then .ok (.fr (xs ++ ys)) else .bad | _ => .bad) | _ => bi2 addD (toD r) (toD s)
def eqRV (r s : R RV) : R Bool := match toL r with | .ok xs => (match toL s with | .ok ys => if goodB (.lst xs) = true ∧ goodB (.lst ys) = true then .ok (D.eqb (.lst xs) (.lst ys)) else .bad | _ => cb2 eqD (toD r) (toD s)) | _ => cb2 eqD (toD r) (toD s)
def andF (r : R Bool) (u : Fr → R Bool) (E : Fr) : R Bool := match r with | .ok true => u E | .ok false => .ok false | _ => .bad
def orF (r : R Bool) (u : Fr → R Bool) (E : Fr) : R Bool := match r with | .ok false => u E | .ok true => .ok true | _ => .bad
def ifV (r : R Bool) (m n : MX) (E : Fr) : R RV := match r with | .ok b => eIf.blend b (toD (m E)) (toD (n E)) | _ => .bad
def freeB (s : Sl) : Bool := match s with | .ow _ => false | .od _ => false | .ot _ => false | .og _ _ => false | _ => true
def onI (f : List Int → R RV) (o : Option (List Int)) : R RV := match o with | some ns => f ns | none => .bad
def lcA (r : R (List (Nat × D))) (t : Fr → R Bool) (m : MX) (E : Fr) : R (Option D) := match r with | .ok ss => lc1.lcT (t (setsF E ss)) (toD (m (setsF E ss))) | _ => .bad
section
variable {E : Fr} {f g : Fr → O} {t u : Fr → R Bool} {m ma mb mc mk : MX} {al : Fr → R (List D)} {d x y : D} {ds xs ys : List D} {i j : Nat} {k n : Int} {b : Bool} {nm : Str} {gg : D → R (List (Nat × D))} {gs : List D → R (List (Nat × D))} {ff : List D → R Ret} {h : D → R (Option D)} {ss rs : List (Nat × D)} {mi : Fr → R (List D)}
variable {rr : Ret} {s s2 : Sl} {is js : List Nat} {fe : D → R RV} {fe2 : D → D → R RV} {fz : Int → R RV} {fz2 : Int → Int → R RV} {fc : D → D → R Bool} {v v2 : V} {b2 : Bool} {nm2 : Str} {p1 p2 : Int → Int → Bool} {k2 : Int} {x1 x2 x3 x4 x5 : D} {o1 o2 : Fr → R (Option Int)} {lo hi : Option Int} {fl : List D → R RV} {ns : List Int} {fv : List D → RV} {st : String} {sts : List String} {v0 : RV} {LL : List (Str × Bool)} {Ls : List Str} {pz pz2 : P3} {qz qz2 : P4} {rd : R D} {rl : R (List D)} {flz : List Int → R RV}
theorem ev_sq : sq f g E = (f E).then g := rfl
theorem ev_if : sIf t f g E = ifF (t E) f g E := rfl
theorem ev_then_nx : O.then (.nx E) g = g E := rfl
theorem ev_then_rt : O.then (.rt rr) g = .rt rr := rfl
theorem ev_then_bk : O.then (.bk E) g = .bk E := rfl
theorem ev_then_ct : O.then (.ct E) g = .ct E := rfl
theorem ev_then_er : O.then (.er nm E) g = .er nm E := rfl
theorem ev_ret_nx : retO (.nx E) = .ok (.im .non) := rfl
theorem ev_ret_rt : retO (.rt rr) = .ok rr := rfl
theorem ev_ret_er : retO (.er nm E) = .er nm := rfl
theorem ev_iff_t : ifF (.ok true) f g E = f E := rfl
theorem ev_iff_f : ifF (.ok false) f g E = g E := rfl
theorem ev_set : sSet i m E = setV i (m E) E := by unfold sSet setV onV; rcases m E with (_ | _ | _) | _ | _ <;> rfl
theorem ev_set_i : setV i (.ok (.im d)) E = .nx (setS E i (.im d)) := rfl
theorem ev_set_f : setV i (.ok (.fr ds)) E = .nx (setS E i (.im (.lst ds))) := rfl
theorem ev_set_e : setV i (.er nm) E = .er nm E := rfl
theorem ev_seto : sSetO i m E = setOV i (m E) E := by unfold sSetO setOV onV; rcases m E with (_ | _ | _) | _ | _ <;> rfl
theorem ev_seto_i : setOV i (.ok (.im d)) E = .nx (setS E i (.im d)) := rfl
theorem ev_seto_f : setOV i (.ok (.fr ds)) E = .nx (setS E i (.ow ds)) := rfl
theorem ev_seto_e : setOV i (.er nm) E = .er nm E := rfl
theorem ev_sret : sRet m E = retMV (m E) E := by unfold sRet retMV onV; rcases m E with (_ | _ | _) | _ | _ <;> rfl
theorem ev_sret_i : retMV (.ok (.im d)) E = .rt (.im d) := rfl
theorem ev_sret_f : retMV (.ok (.fr ds)) E = .rt (.fr ds) := rfl
theorem ev_sret_e : retMV (.er nm) E = .er nm E := rfl
theorem ev_retv : sRetV i E = retS (nthS E i) := rfl
theorem ev_retv_i : retS (.im d) = .rt (.im d) := rfl
theorem ev_retv_o : retS (.ow ds) = .rt (.fr ds) := rfl
theorem ev_retn : sRetN E = .rt (.im .non) := rfl
theorem ev_asg : sAsg gg m E = asgV gg (m E) E := by unfold sAsg asgV onV; rcases m E with (_ | _ | _) | _ | _ <;> rfl
theorem ev_asg_i : asgV gg (.ok (.im d)) E = asgS (gg d) E := rfl
theorem ev_asg_f : asgV gg (.ok (.fr ds)) E = asgS (gg (.lst ds)) E := rfl
theorem ev_asg_e : asgV gg (.er nm) E = .er nm E := rfl
theorem ev_asgs : asgS (.ok ss) E = .nx (setsF E ss) := rfl
theorem ev_aug : sAug i m E = augV i (nthS E i) (toD (m E)) E := rfl
theorem ev_aug_i : augV i (.im (.int k)) (.ok (.int n)) E = .nx (setS E i (.im (.int (k + n)))) := rfl
theorem ev_app : sApp i m E = appV i (nthS E i) (toD (m E)) E := rfl
theorem ev_setix : sSetIx i mk m E = setIxV i (nthS E i) (toD (mk E)) (toD (m E)) E := rfl
theorem ev_pop : sPop i E = popV i (nthS E i) E := rfl
theorem ev_raise : sRaise nm E = .er nm E := rfl
theorem ev_pass : sPass E = .nx E := rfl
theorem ev_break : sBreak E = .bk E := rfl
theorem ev_cont : sContinue E = .ct E := rfl
theorem ev_par : sPar i j al E = parV i j (al E) E := rfl
theorem ev_par_2 : parV i j (.ok [x, y]) E = .nx (setS (setS E i (.im x)) j (.im y)) := rfl
theorem ev_for : sFor gg mi f E = forV gg f (mi E) E := rfl
theorem ev_for_l : forV gg f (.ok ds) E = forN gg f ds E := rfl
theorem ev_for0 : forN gg f [] E = .nx E := rfl
theorem ev_drop : sDrop m E = dropV (m E) E := by unfold sDrop dropV onV; rcases m E with (_ | _ | _) | _ | _ <;> rfl
theorem ev_drop_i : dropV (.ok (.im d)) E = .nx E := rfl
theorem ev_drop_f : dropV (.ok (.fr ds)) E = .nx E := rfl
theorem ev_drop_e : dropV (.er nm) E = .er nm E := rfl
theorem ev_next_nx : nextO (.nx E) f = f E := rfl
theorem ev_next_ct : nextO (.ct E) f = f E := rfl
theorem ev_next_bk : nextO (.bk E) f = .nx E := rfl
theorem ev_next_rt : nextO (.rt rr) f = .rt rr := rfl
theorem ev_next_er : nextO (.er nm E) f = .er nm E := rfl
theorem ev_frz0 : frzs E [] = E := rfl
theorem ev_frz1 : frzs E (i :: is) = frzs (frz E i) is := rfl
theorem ev_nth0 : nthS (s :: E) 0 = s := rfl
theorem ev_nth1 : nthS (s :: E) (i + 1) = nthS E i := rfl
theorem ev_st0 : setS (s :: E) 0 s2 = s2 :: E := rfl
theorem ev_st1 : setS (s :: E) (i + 1) s2 = s :: setS E i s2 := rfl
theorem ev_sets0 : setsF E [] = E := rfl
theorem ev_sets1 : setsF E ((i, d) :: ss) = setsF (setS E i (.im d)) ss := rfl
theorem ev_wipe0 : wipeF E [] = E := rfl
theorem ev_wipe1 : wipeF E (i :: is) = setS (wipeF E is) i .no := rfl
theorem ev_gname : gName i d = .ok [(i, d)] := rfl
theorem ev_gtup_t : gTup gs (.tup ds) = gs ds := rfl
theorem ev_gtup_l : gTup gs (.lst ds) = gs ds := rfl
theorem ev_gcons : gCons gg gs (d :: ds) = appR (gg d) (gs ds) := rfl
theorem ev_gnil : gNil [] = .ok [] := rfl
theorem ev_appr : appR (.ok ss) (.ok rs) = .ok (ss ++ rs) := rfl
theorem ev_var : eVar i E = varV (nthS E i) := rfl
theorem ev_var_i : varV (.im d) = .ok (.im d) := rfl
theorem ev_var_o : varV (.ow ds) = .ok (.ro ds) := rfl
theorem ev_c : eC d E = .ok (.im d) := rfl
theorem ev_tod_i : toD (.ok (.im d)) = .ok d := rfl
theorem ev_tod_f : toD (.ok (.fr ds)) = .ok (.lst ds) := rfl
theorem ev_tol_i : toL (.ok (.im (.lst ds))) = .ok ds := rfl
theorem ev_tol_f : toL (.ok (.fr ds)) = .ok ds := rfl
theorem ev_tol_o : toL (.ok (.ro ds)) = .ok ds := rfl
theorem ev_toa_i : toA (.ok (.im d)) = .ok d := rfl
theorem ev_toa_f : toA (.ok (.fr ds)) = .ok (.lst ds) := rfl
theorem ev_toa_o : toA (.ok (.ro ds)) = .ok (.lst ds) := rfl
theorem ev_e1 : e1 fe m E = un1 fe (toD (m E)) := rfl
theorem ev_un1 : un1 fe (.ok x) = fe x := rfl
theorem ev_e2 : e2 fe2 ma mb E = bi2 fe2 (toD (ma E)) (toD (mb E)) := rfl
theorem ev_bi2 : bi2 fe2 (.ok x) (.ok y) = fe2 x y := rfl
theorem ev_int1 : int1 fz (.int k) = fz k := rfl
theorem ev_int2 : int2 fz2 (.int k) (.int n) = fz2 k n := rfl
theorem ev_sub : subZ k n = .ok (.im (.int (k - n))) := rfl
theorem ev_neg : negZ k = .ok (.im (.int (-k))) := rfl
theorem ev_abs : absZ k = .ok (.im (.int k.natAbs)) := rfl
theorem ev_max : maxZ k n = .ok (.im (.int (max k n))) := rfl
theorem ev_min : minZ k n = .ok (.im (.int (min k n))) := rfl
theorem ev_add : eAdd ma mb E = addV (ma E) (mb E) := rfl
theorem ev_add_i : addV (.ok (.im (.int k))) (.ok (.im (.int n))) = .ok (.im (.int (k + n))) := rfl
theorem ev_c2 : c2 fc ma mb E = cb2 fc (toD (ma E)) (toD (mb E)) := rfl
theorem ev_cb2 : cb2 fc (.ok x) (.ok y) = fc x y := rfl
theorem ev_lt : ltD (.int k) (.int n) = .ok (decide (k < n)) := rfl
theorem ev_le : leD (.int k) (.int n) = .ok (decide (k ≤ n)) := rfl
theorem ev_gt : gtD (.int k) (.int n) = .ok (decide (n < k)) := rfl
theorem ev_ge : geD (.int k) (.int n) = .ok (decide (n ≤ k)) := rfl
theorem ev_eq : cEq ma mb E = eqRV (ma E) (mb E) := rfl
theorem ev_ne : cNe ma mb E = notR (eqRV (ma E) (mb E)) := rfl
theorem ev_eqi : eqRV (.ok (.im (.at v))) (.ok (.im (.at v2))) = eqD (.at v) (.at v2) := rfl
theorem ev_eqd_i : eqD (.int k) (.int n) = .ok (decide (k = n)) := rfl
theorem ev_eqd_b : eqD (.bl b) (.bl b2) = .ok (b == b2) := rfl
theorem ev_eqd_s : eqD (.str nm) (.str nm2) = .ok (nm == nm2) := rfl
theorem ev_eqt : eqRV (.ok (.im (.tup xs))) (.ok (.im (.tup ys))) = eqD (.tup xs) (.tup ys) := rfl
theorem ev_eqat : eqRV (.ok (.im (.at v))) (.ok (.im (.tup ys))) = eqD (.at v) (.tup ys) := rfl
theorem ev_eqta : eqRV (.ok (.im (.tup ys))) (.ok (.im (.at v))) = eqD (.tup ys) (.at v) := rfl
theorem ev_eql_ii : eqRV (.ok (.im (.lst xs))) (.ok (.im (.lst ys))) = eqD (.lst xs) (.lst ys) := rfl
theorem ev_eql_if : eqRV (.ok (.im (.lst xs))) (.ok (.fr ys)) = eqD (.lst xs) (.lst ys) := rfl
theorem ev_eql_io : eqRV (.ok (.im (.lst xs))) (.ok (.ro ys)) = eqD (.lst xs) (.lst ys) := rfl
theorem ev_eql_fi : eqRV (.ok (.fr xs)) (.ok (.im (.lst ys))) = eqD (.lst xs) (.lst ys) := rfl
theorem ev_eql_ff : eqRV (.ok (.fr xs)) (.ok (.fr ys)) = eqD (.lst xs) (.lst ys) := rfl
theorem ev_eql_fo : eqRV (.ok (.fr xs)) (.ok (.ro ys)) = eqD (.lst xs) (.lst ys) := rfl
theorem ev_eql_oi : eqRV (.ok (.ro xs)) (.ok (.im (.lst ys))) = eqD (.lst xs) (.lst ys) := rfl
theorem ev_eql_of : eqRV (.ok (.ro xs)) (.ok (.fr ys)) = eqD (.lst xs) (.lst ys) := rfl
theorem ev_eql_oo : eqRV (.ok (.ro xs)) (.ok (.ro ys)) = eqD (.lst xs) (.lst ys) := rfl
theorem ev_not : notR (.ok b) = .ok (!b) := rfl
theorem ev_isn : cIsN m E = nonR (m E) := rfl
theorem ev_notn : cNotN m E = notR (nonR (m E)) := rfl
theorem ev_non_i : nonR (.ok (.im d)) = .ok d.isNon := rfl
theorem ev_non_f : nonR (.ok (.fr ds)) = .ok false := rfl
theorem ev_non_o : nonR (.ok (.ro ds)) = .ok false := rfl
theorem ev_isnon_n : D.isNon (.non) = true := rfl
theorem ev_isnon_i : D.isNon (.int k) = false := rfl
theorem ev_isnon_b : D.isNon (.bl b) = false := rfl
theorem ev_isnon_s : D.isNon (.str nm) = false := rfl
theorem ev_isnon_t : D.isNon (.tup ds) = false := rfl
theorem ev_isnon_l : D.isNon (.lst ds) = false := rfl
theorem ev_cmp : eCmp t E = blR (t E) := rfl
theorem ev_blr : blR (.ok b) = .ok (.im (.bl b)) := rfl
theorem ev_bolr : bolR (.ok (.im (.bl b))) = .ok b := rfl
theorem ev_tand : tAnd t u E = andF (t E) u E := rfl
theorem ev_tand_t : andF (.ok true) u E = u E := rfl
theorem ev_tand_f : andF (.ok false) u E = .ok false := rfl
theorem ev_tor : tOr t u E = orF (t E) u E := rfl
theorem ev_tor_t : orF (.ok true) u E = .ok true := rfl
theorem ev_tor_f : orF (.ok false) u E = u E := rfl
theorem ev_tnot : tNot t E = notR (t E) := rfl
theorem ev_eand : eAnd ma mb E = blR (tAnd (fun E => bolR (ma E)) (fun E => bolR (mb E)) E) := rfl
theorem ev_eor : eOr ma mb E = blR (tOr (fun E => bolR (ma E)) (fun E => bolR (mb E)) E) := rfl
theorem ev_enot : eNot m E = blR (notR (bolR (m E))) := rfl
theorem ev_tval : tVal m E = truR (m E) := rfl
theorem ev_tru_b : truR (.ok (.im (.bl b))) = .ok b := rfl
theorem ev_tru_l : truR (.ok (.im (.lst ds))) = .ok (!ds.isEmpty) := rfl
theorem ev_tru_f : truR (.ok (.fr ds)) = .ok (!ds.isEmpty) := rfl
theorem ev_tru_o : truR (.ok (.ro ds)) = .ok (!ds.isEmpty) := rfl
theorem ev_ifx : eIf t ma mb E = ifV (t E) ma mb E := rfl
theorem ev_chain : cChain p1 p2 ma mb mc E = chainR p1 p2 (toD (ma E)) (toD (mb E)) (toD (mc E)) := rfl
theorem ev_chain_i : chainR p1 p2 (.ok (.int k)) (.ok (.int n)) (.ok (.int k2)) = .ok (p1 k n && p2 n k2) := rfl
theorem ev_anil : aNil E = .ok [] := rfl
theorem ev_acons : aCons m al E = consR (toD (m E)) (al E) := rfl
theorem ev_lcons : lCons m al E = consR (toA (m E)) (al E) := rfl
theorem ev_consr : consR (.ok d) (.ok ds) = .ok (d :: ds) := rfl
theorem ev_tup : eTup al E = tupR (al E) := rfl
theorem ev_tupr : tupR (.ok ds) = .ok (.im (.tup ds)) := rfl
theorem ev_lst : eLst al E = lstR (al E) := rfl
theorem ev_lstr : lstR (.ok ds) = .ok (.fr ds) := rfl
theorem ev_ix : eIx m mk E = ixR (m E) (toD (mk E)) := rfl
theorem ev_ix_t : ixR (.ok (.im (.tup ds))) (.ok (.int k)) = atR ds k := rfl
theorem ev_ix_l : ixR (.ok (.im (.lst ds))) (.ok (.int k)) = atR ds k := rfl
theorem ev_ix_f : ixR (.ok (.fr ds)) (.ok (.int k)) = atR ds k := rfl
theorem ev_ix_o : ixR (.ok (.ro ds)) (.ok (.int k)) = atR ds k := rfl
theorem ev_at0 : atR (x :: ds) 0 = .ok (.im x) := atR_ok (show atI (x :: ds) ((0 : Nat) : Int) = _ from atI_nat rfl)
theorem ev_at1 : atR (x :: x1 :: ds) 1 = .ok (.im x1) := atR_ok (show atI (x :: x1 :: ds) ((1 : Nat) : Int) = _ from atI_nat rfl)
theorem ev_at2 : atR (x :: x1 :: x2 :: ds) 2 = .ok (.im x2) := atR_ok (show atI (x :: x1 :: x2 :: ds) ((2 : Nat) : Int) = _ from atI_nat rfl)
theorem ev_at3 : atR (x :: x1 :: x2 :: x3 :: ds) 3 = .ok (.im x3) := atR_ok (show atI (x :: x1 :: x2 :: x3 :: ds) ((3 : Nat) : Int) = _ from atI_nat rfl)
theorem ev_at4 : atR (x :: x1 :: x2 :: x3 :: x4 :: ds) 4 = .ok (.im x4) := atR_ok (show atI (x :: x1 :: x2 :: x3 :: x4 :: ds) ((4 : Nat) : Int) = _ from atI_nat rfl)
theorem ev_at5 : atR (x :: x1 :: x2 :: x3 :: x4 :: x5 :: ds) 5 = .ok (.im x5) := atR_ok (show atI (x :: x1 :: x2 :: x3 :: x4 :: x5 :: ds) ((5 : Nat) : Int) = _ from atI_nat rfl)
theorem ev_onone : oNone E = .ok none := rfl
theorem ev_osome : oSome m E = intR (toD (m E)) := rfl
theorem ev_intr : intR (.ok (.int k)) = .ok (some k) := rfl
theorem ev_sl : eSl m o1 o2 E = slR (m E) (o1 E) (o2 E) := rfl
theorem ev_sl_i : slR (.ok (.im (.lst ds))) (.ok lo) (.ok hi) = .ok (.fr (cutD ds lo hi)) := rfl
theorem ev_sl_f : slR (.ok (.fr ds)) (.ok lo) (.ok hi) = .ok (.fr (cutD ds lo hi)) := rfl
theorem ev_sl_o : slR (.ok (.ro ds)) (.ok lo) (.ok hi) = .ok (.fr (cutD ds lo hi)) := rfl
theorem ev_rev : eRev m E = lstR (eRev.revR (toL (m E))) := rfl
theorem ev_revr : eRev.revR (.ok ds) = .ok ds.reverse := rfl
theorem ev_len : eLen m E = lenR (m E) := rfl
theorem ev_len_t : lenR (.ok (.im (.tup ds))) = .ok (.im (.int ds.length)) := rfl
theorem ev_len_i : lenR (.ok (.im (.lst ds))) = .ok (.im (.int ds.length)) := rfl
theorem ev_len_f : lenR (.ok (.fr ds)) = .ok (.im (.int ds.length)) := rfl
theorem ev_len_o : lenR (.ok (.ro ds)) = .ok (.im (.int ds.length)) := rfl
theorem ev_suml : eSum m E = mapL (onInts sumI) (toL (m E)) := rfl
theorem ev_minl : eMinL m E = mapL (onInts minR) (toL (m E)) := rfl
theorem ev_maxl : eMaxL m E = mapL (onInts maxR) (toL (m E)) := rfl
theorem ev_mapl : mapL fl (.ok ds) = fl ds := rfl
theorem ev_sumi : sumI ns = .ok (.im (.int ns.sum)) := rfl
theorem ev_tuple : eTuple m E = seqR imTup (m E) := rfl
theorem ev_list : eList m E = seqR .fr (m E) := rfl
theorem ev_seq_t : seqR fv (.ok (.im (.tup ds))) = .ok (fv ds) := rfl
theorem ev_seq_i : seqR fv (.ok (.im (.lst ds))) = .ok (fv ds) := rfl
theorem ev_seq_f : seqR fv (.ok (.fr ds)) = .ok (fv ds) := rfl
theorem ev_seq_o : seqR fv (.ok (.ro ds)) = .ok (fv ds) := rfl
theorem ev_imtup : imTup ds = .im (.tup ds) := rfl
theorem ev_isi : eIsi m st E = isiR st (toA (m E)) := rfl
theorem ev_isit : eIsiT m sts E = isiTR sts (toD (m E)) := rfl
theorem ev_isi_n : isiR st (.ok (.non)) = .ok (.im (.bl (tyB "NoneType" st))) := rfl
theorem ev_isit_n : isiTR sts (.ok (.non)) = .ok (.im (.bl (sts.any (tyB "NoneType")))) := rfl
theorem ev_isi_b : isiR st (.ok (.bl b)) = .ok (.im (.bl (tyB "bool" st))) := rfl
theorem ev_isit_b : isiTR sts (.ok (.bl b)) = .ok (.im (.bl (sts.any (tyB "bool")))) := rfl
theorem ev_isi_i : isiR st (.ok (.int k)) = .ok (.im (.bl (tyB "int" st))) := rfl
theorem ev_isit_i : isiTR sts (.ok (.int k)) = .ok (.im (.bl (sts.any (tyB "int")))) := rfl
theorem ev_isi_s : isiR st (.ok (.str nm)) = .ok (.im (.bl (tyB "str" st))) := rfl
theorem ev_isit_s : isiTR sts (.ok (.str nm)) = .ok (.im (.bl (sts.any (tyB "str")))) := rfl
theorem ev_isi_t : isiR st (.ok (.tup ds)) = .ok (.im (.bl (tyB "tuple" st))) := rfl
theorem ev_isit_t : isiTR sts (.ok (.tup ds)) = .ok (.im (.bl (sts.any (tyB "tuple")))) := rfl
theorem ev_isi_l : isiR st (.ok (.lst ds)) = .ok (.im (.bl (tyB "list" st))) := rfl
theorem ev_isit_l : isiTR sts (.ok (.lst ds)) = .ok (.im (.bl (sts.any (tyB "list")))) := rfl
theorem ev_call : eCall ff al E = callR ff (al E) := rfl
theorem ev_callr : callR ff (.ok ds) = retV (ff ds) := rfl
theorem ev_retw_i : retV (.ok (.im d)) = .ok (.im d) := rfl
theorem ev_retw_f : retV (.ok (.fr ds)) = .ok (.fr ds) := rfl
theorem ev_retw_e : retV (.er nm) = .er nm := rfl
theorem ev_calld : eCallD ff al E = imOnly (callR ff (nonD (al E))) := rfl
theorem ev_nond : nonD (.ok ds) = .ok (ds ++ [.non]) := rfl
theorem ev_imonly : imOnly (.ok (.im d)) = .ok (.im d) := rfl
theorem ev_callk : eCallK ff al mk E = imOnly (callR ff (snocR (al E) (toD (mk E)))) := rfl
theorem ev_snoc : snocR (.ok ds) (.ok d) = .ok (ds ++ [d]) := rfl
theorem ev_callo : eCallO ff al E = callN ff (al E) := rfl
theorem ev_calln : callN ff (.ok ds) = retN (ff ds) := rfl
theorem ev_call0 : eCall0 ff E = noEr (retV (ff [])) := rfl
theorem ev_noer_i : noEr (.ok v0) = .ok v0 := rfl
theorem ev_lc : eLc js gg mi t m E = lcGo (mi E) (freeS E js) (lc1 gg t m (wipeF E js)) := rfl
theorem ev_ttrue : tTrue E = .ok true := rfl
theorem ev_ival : iVal m E = itR (m E) := rfl
theorem ev_it_t : itR (.ok (.im (.tup ds))) = .ok ds := rfl
theorem ev_it_i : itR (.ok (.im (.lst ds))) = .ok ds := rfl
theorem ev_it_f : itR (.ok (.fr ds)) = .ok ds := rfl
theorem ev_izip : iZipA ma mb E = zipAR (toD (ma E)) (toD (mb E)) := rfl
theorem ev_zip_ll : zipAR (.ok (.lst xs)) (.ok (.lst ys)) = .ok (zipD xs ys) := rfl
theorem ev_zip_lt : zipAR (.ok (.lst xs)) (.ok (.tup ys)) = .ok (zipD xs ys) := rfl
theorem ev_zip_tl : zipAR (.ok (.tup xs)) (.ok (.lst ys)) = .ok (zipD xs ys) := rfl
theorem ev_zip_tt : zipAR (.ok (.tup xs)) (.ok (.tup ys)) = .ok (zipD xs ys) := rfl
theorem ev_int : eInt m E = intcR (toD (m E)) := rfl
theorem ev_int_b : intcR (.ok (.bl b)) = .ok (.im (.int (if b = true then 1 else 0))) := rfl
theorem ev_int_i : intcR (.ok (.int k)) = .ok (.im (.int k)) := rfl
theorem ev_rg1 : iRange1 m E = rng1 (toD (m E)) := rfl
theorem ev_rg2 : iRange2 ma mb E = rng2 (toD (ma E)) (toD (mb E)) := rfl
theorem ev_rg3 : iRange3 ma mb mc E = rng3 (toD (ma E)) (toD (mb E)) (toD (mc E)) := rfl
theorem ev_inl : cIn ma mb E = inR (toD (ma E)) (toL (mb E)) := rfl
theorem ev_nin : cNotIn ma mb E = notR (inR (toD (ma E)) (toL (mb E))) := rfl
theorem ev_int_ : cInT ma mb E = inTR (toD (ma E)) (toD (mb E)) := rfl
theorem ev_nint : cNotInT ma mb E = notR (inTR (toD (ma E)) (toD (mb E))) := rfl
theorem ev_isb : cIsB b m E = isBR b (toD (m E)) := rfl
theorem ev_isbr : isBR b (.ok d) = .ok (d.isBl b) := rfl
theorem ev_isx : eIsx m nm LL E = isxR nm LL (toD (m E)) := rfl
theorem ev_try : sTry i Ls f g E = tryO i Ls (f E) g := rfl
theorem ev_try_nx : tryO i Ls (.nx E) g = .nx E := rfl
theorem ev_try_rt : tryO i Ls (.rt rr) g = .rt rr := rfl
theorem ev_lc1 : lc1 gg t m E d = lcA (gg d) t m E := rfl
theorem ev_lca : lcA (.ok ss) t m E = lc1.lcT (t (setsF E ss)) (toD (m (setsF E ss))) := rfl
theorem ev_lct_t : lc1.lcT (.ok true) (.ok x) = .ok (some x) := rfl
theorem ev_lct_f : lc1.lcT (.ok false) rd = .ok none := rfl
theorem ev_free0 : freeS E [] = true := rfl
theorem ev_free1 : freeS E (i :: js) = (freeB (nthS E i) && freeS E js) := rfl
theorem ev_free_n : freeB .no = true := rfl
theorem ev_free_i : freeB (.im d) = true := rfl
theorem ev_free_o : freeB (.ow ds) = false := rfl
theorem ev_lcn0 : lcN h [] = .ok [] := rfl
theorem ev_lcn1 : lcN h (d :: ds) = optR (h d) (lcN h ds) := rfl
theorem ev_opt_s : optR (.ok (some d)) (.ok ds) = .ok (d :: ds) := rfl
theorem ev_opt_n : optR (.ok none) rl = rl := rfl
theorem ev_oni : onInts flz ds = onI flz (intsOf ds) := rfl
theorem ev_oni_s : onI flz (some ns) = flz ns := rfl
theorem ev_ints0 : intsOf [] = some [] := rfl
theorem ev_ints1 : intsOf (.int k :: ds) = (intsOf ds).map (k :: ·) := rfl
theorem ev_ty_NoneType_int : tyB "NoneType" "int" = false := by decide
theorem ev_ty_NoneType_bool : tyB "NoneType" "bool" = false := by decide
theorem ev_ty_NoneType_str : tyB "NoneType" "str" = false := by decide
theorem ev_ty_NoneType_tuple : tyB "NoneType" "tuple" = false := by decide
theorem ev_ty_NoneType_list : tyB "NoneType" "list" = false := by decide
theorem ev_ty_bool_int : tyB "bool" "int" = true := by decide
theorem ev_ty_bool_bool : tyB "bool" "bool" = true := by decide
theorem ev_ty_bool_str : tyB "bool" "str" = false := by decide
theorem ev_ty_bool_tuple : tyB "bool" "tuple" = false := by decide
theorem ev_ty_bool_list : tyB "bool" "list" = false := by decide
theorem ev_ty_int_int : tyB "int" "int" = true := by decide
theorem ev_ty_int_bool : tyB "int" "bool" = false := by decide
theorem ev_ty_int_str : tyB "int" "str" = false := by decide
theorem ev_ty_int_tuple : tyB "int" "tuple" = false := by decide
theorem ev_ty_int_list : tyB "int" "list" = false := by decide
theorem ev_ty_str_int : tyB "str" "int" = false := by decide
theorem ev_ty_str_bool : tyB "str" "bool" = false := by decide
theorem ev_ty_str_str : tyB "str" "str" = true := by decide
theorem ev_ty_str_tuple : tyB "str" "tuple" = false := by decide
theorem ev_ty_str_list : tyB "str" "list" = false := by decide
theorem ev_ty_tuple_int : tyB "tuple" "int" = false := by decide
theorem ev_ty_tuple_bool : tyB "tuple" "bool" = false := by decide
theorem ev_ty_tuple_str : tyB "tuple" "str" = false := by decide
theorem ev_ty_tuple_tuple : tyB "tuple" "tuple" = true := by decide
theorem ev_ty_tuple_list : tyB "tuple" "list" = false := by decide
theorem ev_ty_list_int : tyB "list" "int" = false := by decide
theorem ev_ty_list_bool : tyB "list" "bool" = false := by decide
theorem ev_ty_list_str : tyB "list" "str" = false := by decide
theorem ev_ty_list_tuple : tyB "list" "tuple" = false := by decide
theorem ev_ty_list_list : tyB "list" "list" = true := by decide
theorem ev_t3ix0 : ixR (.ok (.im (t3 pz))) (.ok (.int 0)) = .ok (.im (.int pz.1)) := rfl
theorem ev_t3ix1 : ixR (.ok (.im (t3 pz))) (.ok (.int 1)) = .ok (.im (.int pz.2.1)) := rfl
theorem ev_t3ix2 : ixR (.ok (.im (t3 pz))) (.ok (.int 2)) = .ok (.im (.int pz.2.2)) := rfl
theorem ev_t3tup : gTup gs (t3 pz) = gs [.int pz.1, .int pz.2.1, .int pz.2.2] := rfl
theorem ev_t3len : lenR (.ok (.im (t3 pz))) = .ok (.im (.int 3)) := rfl
theorem ev_t3isi : isiR st (.ok (t3 pz)) = .ok (.im (.bl (tyB "tuple" st))) := rfl
theorem ev_t3non : (t3 pz).isNon = false := rfl
theorem ev_q4ix0 : ixR (.ok (.im (q4 qz))) (.ok (.int 0)) = .ok (.im (.int qz.1)) := rfl
theorem ev_q4ix1 : ixR (.ok (.im (q4 qz))) (.ok (.int 1)) = .ok (.im (.int qz.2.1)) := rfl
theorem ev_q4ix2 : ixR (.ok (.im (q4 qz))) (.ok (.int 2)) = .ok (.im (.int qz.2.2.1)) := rfl
theorem ev_q4ix3 : ixR (.ok (.im (q4 qz))) (.ok (.int 3)) = .ok (.im (.int qz.2.2.2)) := rfl
theorem ev_q4tup : gTup gs (q4 qz) = gs [.int qz.1, .int qz.2.1, .int qz.2.2.1, .int qz.2.2.2] := rfl
theorem ev_q4len : lenR (.ok (.im (q4 qz))) = .ok (.im (.int 4)) := rfl
theorem ev_q4isi : isiR st (.ok (q4 qz)) = .ok (.im (.bl (tyB "tuple" st))) := rfl
theorem ev_q4non : (q4 qz).isNon = false := rfl
theorem ev_t3eq : eqRV (.ok (.im (t3 pz))) (.ok (.im (t3 pz2))) = eqD (t3 pz) (t3 pz2) := rfl
theorem ev_q4eq : eqRV (.ok (.im (q4 qz))) (.ok (.im (q4 qz2))) = eqD (q4 qz) (q4 qz2) := rfl
theorem ev_t3noL : retN (.ok (.im (t3 pz))) = .ok (.im (t3 pz)) := rfl
theorem ev_nc0 : (((0 : Nat)) : Int) = 0 := rfl
theorem ev_nc1 : (((1 : Nat)) : Int) = 1 := rfl
theorem ev_nc2 : (((2 : Nat)) : Int) = 2 := rfl
theorem ev_nc3 : (((3 : Nat)) : Int) = 3 := rfl
theorem ev_nc4 : (((4 : Nat)) : Int) = 4 := rfl
theorem ev_nc5 : (((5 : Nat)) : Int) = 5 := rfl
theorem ev_nc6 : (((6 : Nat)) : Int) = 6 := rfl
theorem ev_nc7 : (((7 : Nat)) : Int) = 7 := rfl
theorem ev_nc8 : (((8 : Nat)) : Int) = 8 := rfl
theorem ev_nc9 : (((9 : Nat)) : Int) = 9 := rfl
theorem ev_nc10 : (((10 : Nat)) : Int) = 10 := rfl
theorem ev_nc11 : (((11 : Nat)) : Int) = 11 := rfl
theorem ev_nc12 : (((12 : Nat)) : Int) = 12 := rfl
theorem ev_nc13 : (((13 : Nat)) : Int) = 13 := rfl
theorem ev_nc14 : (((14 : Nat)) : Int) = 14 := rfl
theorem ev_nc15 : (((15 : Nat)) : Int) = 15 := rfl
theorem ev_nc16 : (((16 : Nat)) : Int) = 16 := rfl
theorem ev_nc17 : (((17 : Nat)) : Int) = 17 := rfl
theorem ev_nc18 : (((18 : Nat)) : Int) = 18 := rfl
theorem ev_nc19 : (((19 : Nat)) : Int) = 19 := rfl
theorem ev_nc20 : (((20 : Nat)) : Int) = 20 := rfl
theorem ev_nc21 : (((21 : Nat)) : Int) = 21 := rfl
theorem ev_nc22 : (((22 : Nat)) : Int) = 22 := rfl
theorem ev_nc23 : (((23 : Nat)) : Int) = 23 := rfl
theorem ev_nc24 : (((24 : Nat)) : Int) = 24 := rfl
theorem ev_nc25 : (((25 : Nat)) : Int) = 25 := rfl
theorem ev_nc26 : (((26 : Nat)) : Int) = 26 := rfl
theorem ev_nc27 : (((27 : Nat)) : Int) = 27 := rfl
theorem ev_nc28 : (((28 : Nat)) : Int) = 28 := rfl
theorem ev_nc29 : (((29 : Nat)) : Int) = 29 := rfl
theorem ev_nc30 : (((30 : Nat)) : Int) = 30 := rfl
theorem ev_nc31 : (((31 : Nat)) : Int) = 31 := rfl
theorem ev_nc32 : (((32 : Nat)) : Int) = 32 := rfl
theorem ev_nc33 : (((33 : Nat)) : Int) = 33 := rfl
theorem ev_nc34 : (((34 : Nat)) : Int) = 34 := rfl
theorem ev_nc35 : (((35 : Nat)) : Int) = 35 := rfl
theorem ev_nc36 : (((36 : Nat)) : Int) = 36 := rfl
theorem ev_nc37 : (((37 : Nat)) : Int) = 37 := rfl
theorem ev_nc38 : (((38 : Nat)) : Int) = 38 := rfl
theorem ev_nc39 : (((39 : Nat)) : Int) = 39 := rfl
theorem ev_nc40 : (((40 : Nat)) : Int) = 40 := rfl
end

/-! ### mirrors reckoned out -/
theorem ifO_dec {p : Prop} [Decidable p] {x y : O} : ifO (.ok (decide p)) x y = if p then x else y := by
  by_cases h : p
  · rw [if_pos h, decide_eq_true h]; rfl
  · rw [if_neg h, decide_eq_false h]; rfl
theorem ifF_dec {p : Prop} [Decidable p] {f g : Fr → O} {E : Fr} : ifF (.ok (decide p)) f g E = if p then f E else g E := ifO_dec
theorem ifF_bool {b : Bool} {f g : Fr → O} {E : Fr} : ifF (.ok b) f g E = if b = true then f E else g E := by cases b <;> rfl
theorem andF_bool {b : Bool} {u : Fr → R Bool} {E : Fr} : andF (.ok b) u E = if b = true then u E else .ok false := by cases b <;> rfl
theorem orF_bool {b : Bool} {u : Fr → R Bool} {E : Fr} : orF (.ok b) u E = if b = true then .ok true else u E := by cases b <;> rfl
theorem then_ite {p : Prop} [Decidable p] {x y : O} {g : Fr → O} : O.then (if p then x else y) g = if p then x.then g else y.then g := by split <;> rfl
theorem retO_ite {p : Prop} [Decidable p] {x y : O} : retO (if p then x else y) = if p then retO x else retO y := by split <;> rfl
theorem ints_snoc (ns : List Int) (z : Int) : D.ints ns ++ [D.int z] = D.ints (ns ++ [z]) := by rw [D.ints, D.ints, List.map_append]; rfl
theorem quads_snoc (ns : List P4) (z : P4) : D.quads ns ++ [q4 z] = D.quads (ns ++ [z]) := by rw [D.quads, D.quads, List.map_append]; rfl
theorem all_snoc {α : Type} {p : α → Prop} {l : List α} {x : α} (h : ∀ y ∈ l, p y) (k : p x) : ∀ y ∈ l ++ [x], p y := fun y hy => (List.mem_append.mp hy).elim (h y) fun z => by rw [List.mem_singleton.mp z]; exact k
theorem cpow_mk {i j : Int} (h1 : 0 ≤ j) (h2 : j ≤ 1000000) (h3 : i.natAbs < 2 ^ 64) : CPow i j := ⟨h1, h2, h3⟩
theorem lcT_b {b : Bool} {x : D} : lc1.lcT (.ok b) (.ok x) = .ok (if b = true then some x else none) := by cases b <;> rfl
theorem ints_map {α : Type} (f : α → Int) (l : List α) : (l.map fun x => D.int (f x)) = D.ints (l.map f) := by simp [D.ints, Function.comp_def]
theorem ifV_bool {b : Bool} {m n : MX} {E : Fr} {d1 d2 : D} (h1 : toD (m E) = .ok d1) (h2 : toD (n E) = .ok d2) : ifV (.ok b) m n E = .ok (.im (if b = true then d1 else d2)) := by
  unfold ifV eIf.blend
  dsimp only
  rw [h1, h2]
  cases b <;> rfl
theorem appV_ok {i : Nat} {ds : List D} {d : D} {E : Fr} (h : ds.length < sizeLine) : appV i (.ow ds) (.ok d) E = .nx (setS E i (.ow (ds ++ [d]))) := if_pos h
theorem setIx_ok {i n : Nat} {ds : List D} {d : D} {j : Int} {E : Fr} (h : ixN ds.length j = some n) : setIxV i (.ow ds) (.ok (.int j)) (.ok d) E = .nx (setS E i (.ow (ds.set n d))) := by
  show (match ixN ds.length j with | some n => _ | none => _) = _
  rw [h]
theorem popV_ok {i : Nat} {ds : List D} {E : Fr} (h : ds ≠ []) : popV i (.ow ds) E = .nx (setS E i (.ow ds.dropLast)) := if_neg fun z => h (List.isEmpty_iff.mp z)
theorem addL_ff {xs ys : List D} (h : xs.length + ys.length ≤ sizeLine) : addV (.ok (.fr xs)) (.ok (.fr ys)) = .ok (.fr (xs ++ ys)) := if_pos h
theorem addL_ii {xs ys : List D} (h : xs.length + ys.length ≤ sizeLine) : addV (.ok (.im (.lst xs))) (.ok (.im (.lst ys))) = .ok (.fr (xs ++ ys)) := if_pos h
theorem addL_if {xs ys : List D} (h : xs.length + ys.length ≤ sizeLine) : addV (.ok (.im (.lst xs))) (.ok (.fr ys)) = .ok (.fr (xs ++ ys)) := if_pos h
theorem addL_fi {xs ys : List D} (h : xs.length + ys.length ≤ sizeLine) : addV (.ok (.fr xs)) (.ok (.im (.lst ys))) = .ok (.fr (xs ++ ys)) := if_pos h
theorem addL_oi {xs ys : List D} (h : xs.length + ys.length ≤ sizeLine) : addV (.ok (.ro xs)) (.ok (.im (.lst ys))) = .ok (.fr (xs ++ ys)) := if_pos h
theorem addL_of {xs ys : List D} (h : xs.length + ys.length ≤ sizeLine) : addV (.ok (.ro xs)) (.ok (.fr ys)) = .ok (.fr (xs ++ ys)) := if_pos h
theorem addT_ok {xs ys : List D} (h : xs.length + ys.length ≤ sizeLine) : addV (.ok (.im (.tup xs))) (.ok (.im (.tup ys))) = .ok (.im (.tup (xs ++ ys))) := if_pos h
theorem addS_ok {x y : Str} (h : x.length + y.length ≤ sizeLine) : addV (.ok (.im (.str x))) (.ok (.im (.str y))) = .ok (.im (.str (x ++ y))) := if_pos h
theorem rng1_ok {n : Int} (h : -(2 ^ 62) ≤ n ∧ n < 2 ^ 62) : rng1 (.ok (.int n)) = .ok (rngD 0 n.toNat) := if_pos h
theorem rng2_ok {i j : Int} (h : -(2 ^ 62) ≤ i ∧ i < 2 ^ 62 ∧ -(2 ^ 62) ≤ j ∧ j < 2 ^ 62) : rng2 (.ok (.int i)) (.ok (.int j)) = .ok (rngD i (j - i).toNat) := if_pos h
theorem frz_im {E : Fr} {i : Nat} {d : D} (h : nthS E i = .im d) : frz E i = E := by unfold frz; rw [h]
theorem frz_ow {E : Fr} {i : Nat} {ds : List D} (h : nthS E i = .ow ds) : frz E i = setS E i (.im (.lst ds)) := by unfold frz; rw [h]
theorem retN_im {d : D} (h : d.noL = true) : retN (.ok (.im d)) = .ok (.im d) := if_pos h
theorem retN_fr {ds : List D} (h : D.noLs ds = true) : retN (.ok (.fr ds)) = .ok (.fr ds) := if_pos h
theorem slT_ok {ds : List D} {lo hi : Option Int} (h : ¬ (HT.sIx ds.length 0 lo = 0 ∧ HT.sIx ds.length ds.length hi = ds.length)) : slR (.ok (.im (.tup ds))) (.ok lo) (.ok hi) = .ok (.im (.tup (cutD ds lo hi))) := if_neg h
theorem notR_ok' {k : Bool} : notR (.ok k) = .ok (!k) := rfl
theorem ifO_not {p : Prop} [Decidable p] {x y : O} : ifO (.ok (!decide p)) x y = if p then y else x := by
  by_cases h : p
  · rw [if_pos h, decide_eq_true h]; rfl
  · rw [if_neg h, decide_eq_false h]; rfl
/-- a loop over coded items: the state in the frame, as a relation -/
theorem forN_map {α σ : Type} {enc : α → D} {g : D → R (List (Nat × D))} {f : Fr → O} (Iv : σ → Fr → Prop) (step : σ → α → σ) (ok : α → Prop)
    (h : ∀ s E x, ok x → Iv s E → ∃ ss, g (enc x) = .ok ss ∧ ∃ E', (f (setsF E ss) = .nx E' ∨ f (setsF E ss) = .ct E') ∧ Iv (step s x) E') :
    ∀ (xs : List α) (s : σ) (E : Fr), (∀ x ∈ xs, ok x) → Iv s E → ∃ E', forN g f (xs.map enc) E = .nx E' ∧ Iv (xs.foldl step s) E'
  | [], s, E, _, i => ⟨E, rfl, i⟩
  | x :: xs, s, E, hx, i => by
    obtain ⟨ss, h1, E1, h2, h3⟩ := h s E x (hx x List.mem_cons_self) i
    obtain ⟨E2, k1, k2⟩ := forN_map Iv step ok h xs (step s x) E1 (fun y hy => hx y (List.mem_cons_of_mem _ hy)) h3
    refine ⟨E2, ?_, k2⟩
    rw [List.map_cons, forN, h1]
    rcases h2 with h2 | h2
    · show nextO (f (setsF E ss)) _ = _
      rw [h2]
      exact k1
    · show nextO (f (setsF E ss)) _ = _
      rw [h2]
      exact k1
/-- a loop whose state is told turn by turn -/
theorem forN_inv {α : Type} {enc : α → D} {g : D → R (List (Nat × D))} {f : Fr → O} (Iv : Nat → Fr → Prop) :
    ∀ (xs : List α) (n : Nat) (E : Fr), (∀ (i : Nat) (E : Fr) (x : α), xs[i]? = some x → Iv (n + i) E → ∃ ss, g (enc x) = .ok ss ∧ ∃ E', (f (setsF E ss) = .nx E' ∨ f (setsF E ss) = .ct E') ∧ Iv (n + i + 1) E') → Iv n E → ∃ E', forN g f (xs.map enc) E = .nx E' ∧ Iv (n + xs.length) E'
  | [], n, E, _, i => ⟨E, rfl, i⟩
  | x :: xs, n, E, h, i => by
    obtain ⟨ss, h1, E1, h2, h3⟩ := h 0 E x rfl i
    obtain ⟨E2, k1, k2⟩ := forN_inv Iv xs (n + 1) E1 (fun i E y hy iv => by
      have := h (i + 1) E y (by simpa using hy) (by rw [show n + (i + 1) = n + 1 + i by omega]; exact iv)
      rw [show n + 1 + i + 1 = n + (i + 1) + 1 by omega]
      exact this) h3
    refine ⟨E2, ?_, by rw [show n + (x :: xs).length = n + 1 + xs.length by rw [List.length_cons]; omega]; exact k2⟩
    rw [List.map_cons, forN, h1]
    rcases h2 with h2 | h2
    · show nextO (f (setsF E ss)) _ = _
      rw [h2]
      exact k1
    · show nextO (f (setsF E ss)) _ = _
      rw [h2]
      exact k1
/-- .. over a range -/
theorem forN_rng {g : D → R (List (Nat × D))} {f : Fr → O} (Iv : Nat → Fr → Prop) (lo : Int) (n : Nat) (E : Fr) (h : ∀ (i : Nat) (E : Fr), i < n → Iv i E → ∃ ss, g (.int (lo + (i : Int))) = .ok ss ∧ ∃ E', (f (setsF E ss) = .nx E' ∨ f (setsF E ss) = .ct E') ∧ Iv (i + 1) E') (h0 : Iv 0 E) : ∃ E', forN g f (rngD lo n) E = .nx E' ∧ Iv n E' := by
  have k := forN_inv (enc := fun (i : Nat) => D.int (lo + (i : Int))) (g := g) (f := f) Iv (List.range n) 0 E (fun i E x hx iv => by
    have hi := (List.getElem?_eq_some_iff.mp hx).1
    rw [List.length_range] at hi
    rw [List.getElem?_range hi] at hx
    cases hx
    rw [Nat.zero_add] at iv ⊢
    exact h i E hi iv) h0
  rw [List.length_range, Nat.zero_add] at k
  exact k
/-- a comprehension over coded items -/
theorem lcN_map {α : Type} {enc : α → D} {h : D → R (Option D)} {p : α → Bool} {v : α → D} : ∀ {xs : List α}, (∀ x ∈ xs, h (enc x) = .ok (if p x = true then some (v x) else none)) → lcN h (xs.map enc) = .ok ((xs.filter p).map v)
  | [], _ => rfl
  | x :: xs, hx => by
    have i := lcN_map (xs := xs) fun y hy => hx y (List.mem_cons_of_mem _ hy)
    rw [List.map_cons, lcN, i, hx x List.mem_cons_self]
    cases e : p x with
    | true => rw [List.filter_cons_of_pos e, if_pos rfl]; rfl
    | false => rw [List.filter_cons_of_neg (by rw [e]; decide), if_neg Bool.false_ne_true]; rfl
theorem lcN_all {α : Type} {enc : α → D} {h : D → R (Option D)} {v : α → D} {xs : List α} (hx : ∀ x ∈ xs, h (enc x) = .ok (some (v x))) : lcN h (xs.map enc) = .ok (xs.map v) := by
  have i := lcN_map (enc := enc) (h := h) (p := fun _ => true) (v := v) (xs := xs) fun x m => by rw [if_pos rfl]; exact hx x m
  rw [List.filter_eq_self.2 fun _ _ => rfl] at i
  exact i
theorem lcGo_ok {h : D → R (Option D)} {ds vs : List D} (l : ds.length ≤ 100000) (e : lcN h ds = .ok vs) : lcGo (.ok ds) true h = .ok (.fr vs) := by
  unfold lcGo
  dsimp only
  rw [if_pos ⟨rfl, by rw [sizeLine_eq]; omega⟩, e]
  rfl
theorem lcGo_le {h : D → R (Option D)} {ds : List D} (l : ds.length ≤ 100000) : lcGo (.ok ds) true h = lstR (lcN h ds) := by
  unfold lcGo
  dsimp only
  rw [if_pos ⟨rfl, by rw [sizeLine_eq]; omega⟩]
theorem appV_le {i : Nat} {ds : List D} {d : D} {E : Fr} (h : ds.length ≤ 100000) : appV i (.ow ds) (.ok d) E = .nx (setS E i (.ow (ds ++ [d]))) := appV_ok (by rw [sizeLine_eq]; omega)
theorem addL_le {xs ys : List D} (h : xs.length + ys.length ≤ 100000) : xs.length + ys.length ≤ sizeLine := by rw [sizeLine_eq]; omega
theorem ev_addl_ff {xs ys : List D} (h : xs.length + ys.length ≤ 100000) : addV (.ok (.fr xs)) (.ok (.fr ys)) = .ok (.fr (xs ++ ys)) := addL_ff (addL_le h)
theorem ev_addl_ii {xs ys : List D} (h : xs.length + ys.length ≤ 100000) : addV (.ok (.im (.lst xs))) (.ok (.im (.lst ys))) = .ok (.fr (xs ++ ys)) := addL_ii (addL_le h)
theorem ev_addl_if {xs ys : List D} (h : xs.length + ys.length ≤ 100000) : addV (.ok (.im (.lst xs))) (.ok (.fr ys)) = .ok (.fr (xs ++ ys)) := addL_if (addL_le h)
theorem ev_addl_fi {xs ys : List D} (h : xs.length + ys.length ≤ 100000) : addV (.ok (.fr xs)) (.ok (.im (.lst ys))) = .ok (.fr (xs ++ ys)) := addL_fi (addL_le h)
theorem ev_addl_oi {xs ys : List D} (h : xs.length + ys.length ≤ 100000) : addV (.ok (.ro xs)) (.ok (.im (.lst ys))) = .ok (.fr (xs ++ ys)) := addL_oi (addL_le h)
theorem ev_addl_of {xs ys : List D} (h : xs.length + ys.length ≤ 100000) : addV (.ok (.ro xs)) (.ok (.fr ys)) = .ok (.fr (xs ++ ys)) := addL_of (addL_le h)
theorem ev_addt {xs ys : List D} (h : xs.length + ys.length ≤ 100000) : addV (.ok (.im (.tup xs))) (.ok (.im (.tup ys))) = .ok (.im (.tup (xs ++ ys))) := addT_ok (addL_le h)
theorem app_ok {ds : List D} (l : ds.length ≤ 100000) : ds.length < sizeLine := by rw [sizeLine_eq]; omega
/-! data that are == just where they are one -/
mutual
/-- no bools, no exceptions -/
def D.sim : D → Bool
  | .at .non => true
  | .at (.int _) => true
  | .at (.str x) => PyData.strOk x
  | .at _ => false
  | .tup ds => D.sims ds
  | .lst ds => D.sims ds
  | .exc _ => false
  | .obj _ _ _ => false
  | .dct => false
  | .any => false
def D.sims : List D → Bool
  | [] => true
  | d :: ds => D.sim d && D.sims ds
end
mutual
theorem D.sim_ok : ∀ d : D, d.sim = true → d.pyOk = true
  | .at .non, _ => rfl
  | .at (.int _), _ => rfl
  | .at (.str x), h => h
  | .at (.bl _), h => by cases h
  | .at (.byt _), h => by cases h
  | .at (.flt _), h => by cases h
  | .at (.ref _), h => by cases h
  | .at (.ty _), h => by cases h
  | .tup ds, h => D.sims_ok ds h
  | .lst ds, h => D.sims_ok ds h
  | .exc _, h => by cases h
  | .obj _ _ _, h => by cases h
  | .dct, h => by cases h
  | .any, h => by cases h
theorem D.sims_ok : ∀ ds : List D, D.sims ds = true → D.pysOk ds = true
  | [], _ => rfl
  | d :: ds, h => by
    have h' : (D.sim d && D.sims ds) = true := h
    rw [Bool.and_eq_true] at h'
    show (D.pyOk d && D.pysOk ds) = true
    rw [D.sim_ok d h'.1, D.sims_ok ds h'.2]
    rfl
end
mutual
def D.deq : D → D → Bool
  | .at a, .at b => decide (a = b)
  | .tup a, .tup b => D.deqs a b
  | .lst a, .lst b => D.deqs a b
  | .exc a, .exc b => decide (a = b)
  | .obj c ns l, .obj c' ns' l' => (decide (c = c') && decide (ns = ns')) && D.deqs l l'
  | .dct, .dct => true
  | .any, .any => true
  | _, _ => false
def D.deqs : List D → List D → Bool
  | [], [] => true
  | a :: as, b :: bs => D.deq a b && D.deqs as bs
  | _, _ => false
end
mutual
theorem D.deq_iff : ∀ a b : D, D.deq a b = true ↔ a = b
  | .at a, .at b => by rw [D.deq, decide_eq_true_iff]; exact ⟨fun h => by rw [h], fun h => by cases h; rfl⟩
  | .tup a, .tup b => by rw [D.deq, D.deqs_iff a b]; exact ⟨fun h => by rw [h], fun h => by cases h; rfl⟩
  | .lst a, .lst b => by rw [D.deq, D.deqs_iff a b]; exact ⟨fun h => by rw [h], fun h => by cases h; rfl⟩
  | .exc a, .exc b => by rw [D.deq, decide_eq_true_iff]; exact ⟨fun h => by rw [h], fun h => by cases h; rfl⟩
  | .obj c ns l, .obj c' ns' l' => by rw [D.deq, Bool.and_eq_true, Bool.and_eq_true, D.deqs_iff l l', decide_eq_true_iff, decide_eq_true_iff]; simp [and_assoc]
  | .dct, .dct => by simp [D.deq]
  | .any, .any => by simp [D.deq]
  | .at _, .any => by simp [D.deq]
  | .any, .at _ => by simp [D.deq]
  | .tup _, .any => by simp [D.deq]
  | .any, .tup _ => by simp [D.deq]
  | .lst _, .any => by simp [D.deq]
  | .any, .lst _ => by simp [D.deq]
  | .exc _, .any => by simp [D.deq]
  | .any, .exc _ => by simp [D.deq]
  | .obj _ _ _, .any => by simp [D.deq]
  | .any, .obj _ _ _ => by simp [D.deq]
  | .dct, .any => by simp [D.deq]
  | .any, .dct => by simp [D.deq]
  | .at _, .obj _ _ _ => by simp [D.deq]
  | .at _, .dct => by simp [D.deq]
  | .tup _, .obj _ _ _ => by simp [D.deq]
  | .tup _, .dct => by simp [D.deq]
  | .lst _, .obj _ _ _ => by simp [D.deq]
  | .lst _, .dct => by simp [D.deq]
  | .exc _, .obj _ _ _ => by simp [D.deq]
  | .exc _, .dct => by simp [D.deq]
  | .obj _ _ _, .at _ => by simp [D.deq]
  | .obj _ _ _, .tup _ => by simp [D.deq]
  | .obj _ _ _, .lst _ => by simp [D.deq]
  | .obj _ _ _, .exc _ => by simp [D.deq]
  | .obj _ _ _, .dct => by simp [D.deq]
  | .dct, .at _ => by simp [D.deq]
  | .dct, .tup _ => by simp [D.deq]
  | .dct, .lst _ => by simp [D.deq]
  | .dct, .exc _ => by simp [D.deq]
  | .dct, .obj _ _ _ => by simp [D.deq]
  | .at _, .tup _ => by simp [D.deq]
  | .at _, .lst _ => by simp [D.deq]
  | .at _, .exc _ => by simp [D.deq]
  | .tup _, .at _ => by simp [D.deq]
  | .tup _, .lst _ => by simp [D.deq]
  | .tup _, .exc _ => by simp [D.deq]
  | .lst _, .at _ => by simp [D.deq]
  | .lst _, .tup _ => by simp [D.deq]
  | .lst _, .exc _ => by simp [D.deq]
  | .exc _, .at _ => by simp [D.deq]
  | .exc _, .tup _ => by simp [D.deq]
  | .exc _, .lst _ => by simp [D.deq]
theorem D.deqs_iff : ∀ a b : List D, D.deqs a b = true ↔ a = b
  | [], [] => by simp [D.deqs]
  | [], _ :: _ => by simp [D.deqs]
  | _ :: _, [] => by simp [D.deqs]
  | a :: as, b :: bs => by rw [D.deqs, Bool.and_eq_true, D.deq_iff a b, D.deqs_iff as bs]; simp
end
instance : DecidableEq D := fun a b => if h : D.deq a b = true then isTrue ((D.deq_iff a b).mp h) else isFalse fun e => h ((D.deq_iff a b).mpr e)
mutual
theorem D.eqb_sim : ∀ a b : D, a.sim = true → b.sim = true → D.eqb a b = D.deq a b
  | .at a, .at b, ha, hb => by
    unfold D.eqb
    cases a <;> cases b <;> first | (cases ha; done) | (cases hb; done) | (simp [D.py, PyData.eqv, D.deq, Bool.beq_eq_decide_eq])
  | .tup a, .tup b, ha, hb => by
    unfold D.eqb
    rw [D.py, D.py, PyData.eqv, D.deq]
    exact D.eqbs_sim a b ha hb
  | .lst a, .lst b, ha, hb => by
    unfold D.eqb
    rw [D.py, D.py, PyData.eqv, D.deq]
    exact D.eqbs_sim a b ha hb
  | .exc _, _, ha, _ => by cases ha
  | _, .exc _, _, hb => by cases hb
  | .obj _ _ _, _, ha, _ => by cases ha
  | _, .obj _ _ _, _, hb => by cases hb
  | .dct, _, ha, _ => by cases ha
  | .any, _, ha, _ => by cases ha
  | _, .dct, _, hb => by cases hb
  | _, .any, _, hb => by cases hb
  | .at a, .tup b, ha, hb => by unfold D.eqb; cases a <;> first | (cases ha; done) | (simp [D.py, PyData.eqv, D.deq])
  | .at a, .lst b, ha, hb => by unfold D.eqb; cases a <;> first | (cases ha; done) | (simp [D.py, PyData.eqv, D.deq])
  | .tup a, .at b, ha, hb => by unfold D.eqb; cases b <;> first | (cases hb; done) | (simp [D.py, PyData.eqv, D.deq])
  | .lst a, .at b, ha, hb => by unfold D.eqb; cases b <;> first | (cases hb; done) | (simp [D.py, PyData.eqv, D.deq])
  | .tup a, .lst b, ha, hb => by unfold D.eqb; simp [D.py, PyData.eqv, D.deq]
  | .lst a, .tup b, ha, hb => by unfold D.eqb; simp [D.py, PyData.eqv, D.deq]
theorem D.eqbs_sim : ∀ a b : List D, D.sims a = true → D.sims b = true → PyData.eqvAll (D.pys a) (D.pys b) = D.deqs a b
  | [], [], _, _ => by simp [D.pys, PyData.eqvAll, D.deqs]
  | [], _ :: _, _, _ => by simp [D.pys, PyData.eqvAll, D.deqs]
  | _ :: _, [], _, _ => by simp [D.pys, PyData.eqvAll, D.deqs]
  | a :: as, b :: bs, ha, hb => by
    have ha' : (D.sim a && D.sims as) = true := ha
    have hb' : (D.sim b && D.sims bs) = true := hb
    rw [Bool.and_eq_true] at ha' hb'
    rw [D.pys, D.pys, PyData.eqvAll, D.deqs, D.eqbs_sim as bs ha'.2 hb'.2]
    have e : PyData.eqv a.py b.py = D.deq a b := D.eqb_sim a b ha'.1 hb'.1
    rw [e]
end
/-- == of such data -/
theorem D.eqb_dec {a b : D} (ha : a.sim = true) (hb : b.sim = true) : D.eqb a b = decide (a = b) := by
  rw [D.eqb_sim a b ha hb]
  by_cases h : a = b
  · rw [decide_eq_true h, (D.deq_iff a b).mpr h]
  · rw [decide_eq_false h]
    cases e : D.deq a b with
    | false => rfl
    | true => exact absurd ((D.deq_iff a b).mp e) h
theorem goodB_sim {d : D} (h : d.sim = true) (k : d.dep ≤ 64) : goodB d = true := goodB_iff.mpr ⟨D.sim_ok d h, k⟩
theorem eqD_sim {a b : D} (ha : a.sim = true) (hb : b.sim = true) (ka : a.dep ≤ 64) (kb : b.dep ≤ 64) : eqD a b = .ok (decide (a = b)) := by
  have go : (if goodB a = true ∧ goodB b = true then R.ok (D.eqb a b) else .bad) = .ok (decide (a = b)) := by rw [if_pos ⟨goodB_sim ha ka, goodB_sim hb kb⟩, D.eqb_dec ha hb]
  unfold eqD
  split
  · congr 1; simp
  · cases ha
  · congr 1
    rename_i x y
    rw [Bool.beq_eq_decide_eq]
    by_cases h : x = y
    · subst h; simp
    · simp [h]
  · exact go
theorem inR_ints (i : Int) (ns : List Int) : inR (.ok (.int i)) (.ok (D.ints ns)) = .ok (decide (i ∈ ns)) := by
  show (if goodB (.int i) = true ∧ goodB (.lst (D.ints ns)) = true then R.ok ((D.ints ns).any fun z => D.eqb z (.int i)) else .bad) = _
  rw [if_pos ⟨goodB_iff.mpr (good_int i), goodB_iff.mpr (good_ints ns)⟩, any_ints]
theorem retN_at (v : V) : retN (.ok (.im (.at v))) = .ok (.im (.at v)) := rfl
theorem sims_map {α : Type} {f : α → D} (h : ∀ x, (f x).sim = true) : ∀ l : List α, D.sims (l.map f) = true
  | [] => rfl
  | x :: l => by
    show (D.sim (f x) && D.sims (l.map f)) = true
    rw [h x, sims_map h l]
    rfl
theorem deps_map {α : Type} {f : α → D} {n : Nat} (h : ∀ x, (f x).dep ≤ n) : ∀ l : List α, D.deps (l.map f) ≤ n
  | [] => Nat.zero_le _
  | x :: l => Nat.max_le.mpr ⟨h x, deps_map h l⟩
theorem eqD_lists {α : Type} {f : α → D} (h : ∀ x, (f x).sim = true) (k : ∀ x, (f x).dep ≤ 60) (inj : ∀ x y, f x = f y → x = y) (l m : List α) [Decidable (l = m)] : eqD (.lst (l.map f)) (.lst (m.map f)) = .ok (decide (l = m)) := by
  rw [eqD_sim (a := .lst (l.map f)) (b := .lst (m.map f)) (sims_map h l) (sims_map h m) (by have := deps_map k l; show D.deps _ + 1 ≤ 64; omega) (by have := deps_map k m; show D.deps _ + 1 ≤ 64; omega)]
  congr 1
  apply decide_eq_decide.mpr
  constructor
  · intro e
    exact List.map_inj_right (fun x y z => inj x y z) |>.mp (D.lst.inj e)
  · intro e
    rw [e]
theorem q4_sim (q : P4) : (q4 q).sim = true := rfl
theorem t3_sim (q : P3) : (t3 q).sim = true := rfl
theorem q4_inj (q r : P4) (h : q4 q = q4 r) : q = r := by
  obtain ⟨a, b, c, d⟩ := q
  obtain ⟨a', b', c', d'⟩ := r
  unfold q4 at h
  simpa using h
theorem t3_inj (q r : P3) (h : t3 q = t3 r) : q = r := by
  obtain ⟨a, b, c⟩ := q
  obtain ⟨a', b', c'⟩ := r
  unfold t3 at h
  simpa using h
theorem eqD_quads (l m : List P4) : eqD (.lst (D.quads l)) (.lst (D.quads m)) = .ok (decide (l = m)) := eqD_lists q4_sim (fun q => by show 1 ≤ 60; decide) q4_inj l m
theorem eqD_t3s (l m : List P3) : eqD (.lst (l.map t3)) (.lst (m.map t3)) = .ok (decide (l = m)) := eqD_lists t3_sim (fun q => by show 1 ≤ 60; decide) t3_inj l m
theorem eqD_ints (l m : List Int) : eqD (.lst (D.ints l)) (.lst (D.ints m)) = .ok (decide (l = m)) := eqD_lists (f := D.int) (fun _ => rfl) (fun q => by show 0 ≤ 60; decide) (fun x y h => by simpa using h) l m
theorem eqD_t3 (p q : P3) : eqD (t3 p) (t3 q) = .ok (decide (p = q)) := by
  rw [eqD_sim (t3_sim p) (t3_sim q) (by show 1 ≤ 64; decide) (by show 1 ≤ 64; decide)]
  congr 1
  exact decide_eq_decide.mpr ⟨t3_inj p q, fun e => by rw [e]⟩
theorem eqD_q4 (p q : P4) : eqD (q4 p) (q4 q) = .ok (decide (p = q)) := by
  rw [eqD_sim (q4_sim p) (q4_sim q) (by show 1 ≤ 64; decide) (by show 1 ≤ 64; decide)]
  congr 1
  exact decide_eq_decide.mpr ⟨q4_inj p q, fun e => by rw [e]⟩
/-- a while with a measure -/
theorem sWhile_run {t : Fr → R Bool} {f : Fr → O} (Iv Fin : Fr → Prop) (μ : Fr → Nat) (h : ∀ E, Iv E → (t E = .ok true ∧ ∃ E', (f E = .nx E' ∨ f E = .ct E') ∧ Iv E' ∧ μ E' < μ E) ∨ (t E = .ok false ∧ Fin E)) {E : Fr} (h0 : Iv E) : ∃ E', sWhile t f E = .nx E' ∧ Fin E' := by
  have go : ∀ (n : Nat) (E : Fr), μ E < n → Iv E → ∃ m E', whileN t f m E = .nx E' ∧ Fin E' := by
    intro n
    induction n with
    | zero => intro E hl; omega
    | succ n ih =>
      intro E hl iv
      rcases h E iv with ⟨h1, E1, h2, h3, h4⟩ | ⟨h1, h2⟩
      · obtain ⟨m, E2, k1, k2⟩ := ih E1 (by omega) h3
        refine ⟨m + 1, E2, ?_, k2⟩
        rw [whileN_succ, h1]
        rcases h2 with h2 | h2 <;> rw [h2] <;> exact k1
      · exact ⟨1, E, by rw [whileN_succ, h1]; rfl, h2⟩
  obtain ⟨m, E', k1, k2⟩ := go (μ E + 1) E (by omega) h0
  exact ⟨E', sWhile_eq k1 (by intro z; cases z), k2⟩
/-- a tuple or a list -/
def IsSq (d : D) (ds : List D) : Prop := d = .tup ds ∨ d = .lst ds
theorem it_seq {d : D} {ds : List D} (h : IsSq d ds) : itR (.ok (.im d)) = .ok ds := by rcases h with h | h <;> rw [h] <;> rfl
theorem len_seq {d : D} {ds : List D} (h : IsSq d ds) : lenR (.ok (.im d)) = .ok (.im (.int ds.length)) := by rcases h with h | h <;> rw [h] <;> rfl
theorem ix_seq {d : D} {ds : List D} {k : Int} (h : IsSq d ds) : ixR (.ok (.im d)) (.ok (.int k)) = atR ds k := by rcases h with h | h <;> rw [h] <;> rfl
end DL

/-! ### laws whose top has reckoned constants -/
namespace L2
open PySem PySem.Spec PyProof.Rows
theorem walk_ofL {l : PySem.W.OpenLaw} {n k : Nat} {q : Program} {lo : List Str}
    {XP : (Str → Option Value) → Heap → Prop} {YP : World → Heap → Prop} {d : DefRec}
    {K : Params → PySem.W.Frag} {CX : World → CXT} {sp : World → Sp} {x : Str} (hn : l.most = some n)
    (hn2 : n ≤ sizeLine) (hdf : d.params.defaults = []) (hr : Room k callerA) (hY : ∀ (w : World) (h : Heap), YP w h → (K w.params).In h)
    (F : ∀ (w : World) (mg : Str → Option Value) (fa : Addr) (h : Heap), (K w.params).In h → h.Ns mainGlobals mg → XP mg h → (∀ x e, valOf q x = some e → ∃ v, mg x = some v ∧ ∀ h' : Heap, Reads h' v e []) → mg d.name = some (.ref fa) →
      ∃ fd : FuncData, (∀ (s : Shared) (u : Value), BindsTo s fd ⟨[u], []⟩ [(x, u)]) ∧ ∀ base : Heap, (K w.params).In base → base.Ns mainGlobals mg → FnOk l.prog w (K w.params) mg base (CX w) k fa fd [x] (sp w))
    (hsp : ∀ (w : World) (H : Hp) (a : Addr) (ns : List Int), ns.length ≤ n → (∀ z ∈ ns, Builtin.Int.intBits z ≤ 1048576) → Only H →
      SqL (K w.params) H a (ns.map V.int) → sp w [.ref a] H (fun v _ => v = .bl true) fun _ _ _ => False)
    (hCX : ∀ (w : World) (H : Hp) (s : Shared) (e : Value) (s' : Shared), CX w [] H s (fun _ _ _ => False) e s' → False) : PySem.W.WalkO q lo XP YP l.row.toRowW d [] (fun f vs => PySem.call f vs) :=
  Att.attach_callB hn hdf fun w s0 s1 mg mb fa o pm cd doc a vs ns G Y ho hd hcd hmg hobj hints hlen hbits hg =>
    have KX := hY w _ Y
    let ⟨fd, hb, hF⟩ := F w mg fa _ KX G.T.g G.X G.T.const hmg
    law_call KX G.T.g G.T.b G.T.builtins G.T.nolimit hg hobj hints (Nat.le_trans hlen hn2) hr hF hb (fun H hO hS => hsp w H a ns hlen hbits hO hS) fun H e s' => hCX w H s1 e s'
end L2
namespace DL
open PySem PySem.Spec PyProof.Rows L2
theorem gint_of {p : Program} {lv : List (Str × PySem.W.WData)} {mg : Str → Option Value} {h : Heap} (X : PySem.W.XL p lv mg h) {x : Str} {i : Int} (m : (x, PySem.W.WData.int i) ∈ lv) : ∃ t, mg x = some (.int i t) := by
  obtain ⟨v, a, b⟩ := X.2.val _ m
  obtain ⟨t, rfl, -⟩ := PySem.W.readsW_int_inv b
  exact ⟨t, a⟩
theorem gcon_of {mg : Str → Option Value} {x : Str} {i : Int} (c : ∃ v, mg x = some v ∧ ∀ h' : Heap, Reads h' v (.int i) []) : ∃ t, mg x = some (.int i t) := by
  obtain ⟨v, a, b⟩ := c
  cases b default
  exact ⟨_, a⟩
theorem scon_of {mg : Str → Option Value} {x : Str} {i : Str} (c : ∃ v, mg x = some v ∧ ∀ h' : Heap, Reads h' v (.str i) []) : ∃ t, mg x = some (.str i t) := by
  obtain ⟨v, a, b⟩ := c
  cases b default
  exact ⟨_, a⟩
end DL

/-! ### dicts of one's own, keys of ints -/
namespace DL
open PySem PySem.Spec PyProof.Rows L2
def dGet (kvs : List (List Key × D)) (k : List Key) : Option D := (kvs.find? fun kv => decide (kv.1 = k)).map (·.2)
def dPut (kvs : List (List Key × D)) (k : List Key) (d : D) : List (List Key × D) :=
  if (kvs.any fun kv => decide (kv.1 = k)) = true then kvs.map (fun kv => if kv.1 = k then (kv.1, d) else kv) else kvs ++ [(k, d)]
def keyI (ns : List Int) : List Key := ns.map Sum.inl
/-- a tuple of ints as a key -/
def keyD : D → Option (List Int)
  | .tup ds => intsOf ds
  | _ => none
theorem keyD_eq {d : D} {ns : List Int} (h : keyD d = some ns) : d = .tup (D.ints ns) := by
  unfold keyD at h
  split at h
  · rw [intsOf_eq h]
  · cases h
theorem keyI_kV (ns : List Int) : (keyI ns).map kV = ns.map V.int := by
  unfold keyI
  rw [List.map_map]
  rfl
section
variable {K : PySem.W.Frag} {H H' : Hp}
theorem kv_any {xs : List (List Key × V)} {ds : List (List Key × D)} (k : List Key) (h : RepKV K H xs ds) : (xs.any fun kv => decide (kv.1 = k)) = ds.any fun kv => decide (kv.1 = k) := by
  induction h with
  | nil => rfl
  | cons r _ ih => rw [List.any_cons, List.any_cons, ih, r.1]
theorem kv_len {xs : List (List Key × V)} {ds : List (List Key × D)} (h : RepKV K H xs ds) : xs.length = ds.length := by
  induction h with
  | nil => rfl
  | cons _ _ ih => exact congrArg (· + 1) ih
theorem kv_get {xs : List (List Key × V)} {ds : List (List Key × D)} (k : List Key) (h : RepKV K H xs ds) : (valV xs k).isSome = (dGet ds k).isSome ∧ ∀ d, dGet ds k = some d → ∃ v, valV xs k = some v ∧ Rep K H v d := by
  induction h with
  | nil => exact ⟨rfl, fun d z => by cases z⟩
  | @cons p q ps qs r _ ih =>
    by_cases e : q.1 = k
    · have e' : p.1 = k := by rw [r.1]; exact e
      have g : dGet (q :: qs) k = some q.2 := by
        unfold dGet
        rw [List.find?_cons, decide_eq_true e]
        rfl
      rw [valV_pos e', g]
      exact ⟨rfl, fun d z => by cases z; exact ⟨_, rfl, r.2⟩⟩
    · have e' : ¬ p.1 = k := by rw [r.1]; exact e
      have g : dGet (q :: qs) k = dGet qs k := by
        unfold dGet
        rw [List.find?_cons, decide_eq_false e]
      rw [valV_neg e', g]
      exact ih
theorem kv_map {xs : List (List Key × V)} {ds : List (List Key × D)} (k : List Key) {v : V} {d : D} (rv : Rep K H v d) (h : RepKV K H xs ds) : RepKV K H (xs.map fun kv => if kv.1 = k then (kv.1, v) else kv) (ds.map fun kv => if kv.1 = k then (kv.1, d) else kv) := by
  induction h with
  | nil => exact .nil
  | @cons p q ps qs r _ ih =>
    rw [List.map_cons, List.map_cons]
    refine .cons ?_ ih
    by_cases e : q.1 = k
    · rw [if_pos e, if_pos (by rw [r.1]; exact e)]
      exact ⟨r.1, rv⟩
    · rw [if_neg e, if_neg (by rw [r.1]; exact e)]
      exact r
theorem kv_snoc {xs : List (List Key × V)} {ds : List (List Key × D)} {k : List Key} {v : V} {d : D} (rv : Rep K H v d) (h : RepKV K H xs ds) : RepKV K H (xs ++ [(k, v)]) (ds ++ [(k, d)]) := by
  induction h with
  | nil => exact .cons ⟨rfl, rv⟩ .nil
  | cons r _ ih => exact .cons r ih
theorem kv_put {xs : List (List Key × V)} {ds : List (List Key × D)} (k : List Key) {v : V} {d : D} (rv : Rep K H v d) (h : RepKV K H xs ds) : RepKV K H (putK xs k v) (dPut ds k d) := by
  unfold putK dPut
  rw [kv_any k h]
  split
  · exact kv_map k rv h
  · exact kv_snoc rv h
/-- the tuple that stands for a key -/
theorem key_rep {v : V} {d : D} {ns : List Int} (r : Rep K H v d) (k : keyD d = some ns) : ∃ b, v = .ref b ∧ H b = some (.tup ((keyI ns).map kV)) := by
  rw [keyD_eq k] at r
  cases r with
  | tup s rs =>
    rw [rs.ints] at s
    rw [keyI_kV]
    exact ⟨_, rfl, s⟩
end
theorem nth_od {ρ : Rho} {i : Nat} {ks : List (List Key × D)} (h : nthS (frOf ρ) i = .od ks) : ∃ a, ρ[i]? = some (.od a ks) := by
  rw [frOf_nth] at h
  cases e : ρ[i]? with
  | none => rw [e] at h; cases h
  | some x => rw [e] at h; cases x <;> first | (cases h; exact ⟨_, rfl⟩) | cases h
section
variable {X : Cx} {C : Ctx} {ρ : Rho} {P : Post} {e a b : Expr} {pos p : Pos} {m ma mk : MX}
/-- x = {} -/
def sSetD (i : Nat) : Fr → O := fun E => .nx (setS E i (.od []))
theorem sm_setD (i : Nat) {x : Str} {p' : Pos} (hN : X.N.Nodup) (hi : X.N[i]? = some x := by rfl) (hx : Loc X.env.scope x := by first | exact Or.inl rfl | exact Or.inr rfl) (hs : swapsWith (.Dict [] [] p) (some (.Name x p')) pos.line X.env = pure false := by rfl)
    (hf : X.fn x = true ∨ X.env.scope.names.lookup x = some .local := by first | exact .inl rfl | exact .inr rfl) : SM X (.Assign [.Name x p'] (.Dict [] [] p) pos) (sSetD i) := .mk fun C ρ P ok => fun σ H D S L => by
  refine wpS_of (ps_set hN hi hx pe_dnewT hs hf) fun l hl => ?_
  by_cases hi : i < ρ.length
  · obtain ⟨S2, s2⟩ := S.setOwn i hi (x := .od l []) rfl hl (same_upd (o := .dT []) hl) (by rw [upd_same]; intro z; cases z) (fun _ e => by cases e) (fun ds' e => by cases e; exact ⟨[], upd_same, .nil⟩) fun _ e => by cases e
    exact L.nx _ _ _ (ok _ (frOf_set ..)) S2 s2
  · have h' := ok (ρ.set i (.od l [])) (frOf_set ..)
    rw [set_oob hi] at h'
    show D.nx (σ.set i (some (.ref l))) _
    rw [set_oobS (by rw [S.len]; exact hi)]
    exact L.nx _ _ _ h' (S.same (same_upd hl)) (vis_same (same_upd hl))
/-- d[k] = v -/
def sPut (i : Nat) (mk m : MX) : Fr → O := fun E => match nthS E i with
  | .od ks => (match toD (mk E) with
    | .ok k => (match keyD k with
      | some ns => (match toD (m E) with
        | .ok d => if ks.length < sizeLine then .nx (setS E i (.od (dPut ks (keyI ns) d))) else .bad
        | _ => .bad)
      | none => .bad)
    | _ => .bad)
  | _ => .bad
theorem sm_put (i : Nat) {x : Str} {p1 p2 : Pos} (hu : X.A.units + 65 < cLine) (h : EM X e m) (hk : EM X b mk) (hN : X.N[i]? = some x := by rfl) (hv : Vis X.env.scope x := by first | exact Or.inl rfl | exact Or.inr (Or.inl rfl) | exact Or.inr (Or.inr rfl)) (hs : swapsWith e (some (.Subscript (.Name x p1) b p2)) pos.line X.env = pure false := by rfl)
    (hd : (x == ("__debug__" : Str)) = false := by decide) (hcd : (x == ("__classdict__" : Str)) = false := by decide) : SM X (.Assign [.Subscript (.Name x p1) b p2] e pos) (sPut i mk m) := .mk fun C ρ P ok => by
  unfold sPut at ok
  split at ok
  · rename_i ks q
    split at ok
    · rename_i k q2
      split at ok
      · rename_i ns q3
        split at ok
        · rename_i d q4
          split at ok
          · rename_i hl
            obtain ⟨l, hr⟩ := nth_od q
            intro σ H D S L
            obtain ⟨h1, xs, h2, h3⟩ := S.od i l ks hr
            refine wpS_of (ps_dput (by omega) (pe_var hN hv hd hcd) pe_wp pe_wp hs) (h.ee q4 σ H S _ fun v H1 s1 r1 => ⟨_, h1, hk.ee q2 σ H1 (S.same s1) _ fun y H2 s2 r2 => ?_⟩)
            obtain ⟨kb, rfl, e2⟩ := key_rep r2 q3
            have S2 := (S.same s1).same s2
            have rr : RepKV X.K (vis C (ows ρ) H2) (putK xs (keyI ns) v) (dPut ks (keyI ns) d) := kv_put _ (Rep.mono (vis_same s2) _ r1) (h3.mono (vis_same (s1.trans s2)))
            obtain ⟨S3, s3⟩ := S2.updOwn i (x := .od l (dPut ks (keyI ns) d)) hr rfl rfl (S2.od i l ks hr).1 (fun _ e => by cases e) (fun ds' e => by cases e; exact ⟨_, rfl, rr⟩) fun _ e => by cases e
            exact ⟨l, _, rfl, DPut.t ((s1.trans s2) _ _ h2) (S2.visIn _ _ e2) (by rw [kv_len h3]; exact hl), L.nx _ _ _ (ok _ (frOf_set ..)) S3 ((vis_same (s1.trans s2)).trans s3)⟩
          · exact ok.elim
        · exact ok.elim
      · exact ok.elim
    · exact ok.elim
  · exact ok.elim
/-- d[k] -/
def eGetD (i : Nat) (mk : MX) : MX := fun E => match nthS E i with
  | .od ks => (match toD (mk E) with
    | .ok k => (match keyD k with
      | some ns => (match dGet ks (keyI ns) with
        | some d => .ok (.im d)
        | none => .bad)
      | none => .bad)
    | _ => .bad)
  | _ => .bad
theorem em_getD (i : Nat) {x : Str} (hu : X.A.units + 65 < cLine) (hk : EM X b mk) (hN : X.N[i]? = some x := by rfl) (hv : Vis X.env.scope x := by first | exact Or.inl rfl | exact Or.inr (Or.inl rfl) | exact Or.inr (Or.inr rfl)) (hp : PlainIx b := by intro _ _; rfl)
    (hd : (x == ("__debug__" : Str)) = false := by decide) (hcd : (x == ("__classdict__" : Str)) = false := by decide) : EM X (.Subscript (.Name x p) b pos) (eGetD i mk) := .mk fun C ρ => by
  unfold eGetD
  split
  · rename_i ks q
    split
    · rename_i k q2
      split
      · rename_i ns q3
        split
        · rename_i d q4
          obtain ⟨l, hr⟩ := nth_od q
          show EE X C ρ _ d
          intro σ H S Q qq
          obtain ⟨h1, xs, h2, h3⟩ := S.od i l ks hr
          refine wpE_of (pe_dget (by omega) (pe_var hN hv hd hcd) pe_wp hp) ⟨_, h1, hk.ee q2 σ H S _ fun y H1 s1 r1 => ?_⟩
          obtain ⟨kb, rfl, e2⟩ := key_rep r1 q3
          obtain ⟨v, e3, r3⟩ := (kv_get (keyI ns) (h3.mono (vis_same s1))).2 d q4
          exact ⟨l, v, rfl, by rw [← e3]; exact DGet.t (s1 _ _ h2) ((S.same s1).visIn _ _ e2), qq v H1 s1 r3⟩
        · trivial
      · trivial
    · trivial
  · trivial
/-- k in d -/
def inDR (i : Nat) (mk : MX) : Fr → R Bool := fun E => match nthS E i with
  | .od ks => (match toD (mk E) with
    | .ok k => (match keyD k with
      | some ns => .ok (dGet ks (keyI ns)).isSome
      | none => .bad)
    | _ => .bad)
  | _ => .bad
def cInD (i : Nat) (mk : MX) : Fr → R Bool := inDR i mk
def cNotInD (i : Nat) (mk : MX) : Fr → R Bool := fun E => notR (inDR i mk E)
theorem inDR_ok (i : Nat) {x : Str} (hu : X.A.units + 65 < cLine) (hk : EM X b mk) (hN : X.N[i]? = some x) (hv : Vis X.env.scope x) (hd : (x == ("__debug__" : Str)) = false) (hcd : (x == ("__classdict__" : Str)) = false) {C : Ctx} {ρ : Rho} {k : Bool} (h : inDR i mk (frOf ρ) = .ok k) :
    EC X C ρ .In b (.Name x p) (.bl k) ∧ EC X C ρ .NotIn b (.Name x p) (.bl (!k)) := by
  unfold inDR at h
  split at h
  · rename_i ks q
    split at h
    · rename_i kd q2
      split at h
      · rename_i ns q3
        cases h
        obtain ⟨l, hr⟩ := nth_od q
        constructor <;> intro σ H S Q qq pins s I
        · refine (pc_din (by omega) pe_wp (pe_var hN hv hd hcd)).run pins s σ H _ I (hk.ee q2 σ H S _ fun y H1 s1 r1 => ?_)
          obtain ⟨h1, xs, h2, h3⟩ := (S.same s1).od i l ks hr
          obtain ⟨kb, rfl, e2⟩ := key_rep r1 q3
          refine ⟨_, h1, l, _, rfl, DGet.t h2 ((S.same s1).visIn _ _ e2), ?_⟩
          rw [(kv_get (keyI ns) h3).1]
          exact qq H1 s1
        · refine (pc_dnotin (by omega) pe_wp (pe_var hN hv hd hcd)).run pins s σ H _ I (hk.ee q2 σ H S _ fun y H1 s1 r1 => ?_)
          obtain ⟨h1, xs, h2, h3⟩ := (S.same s1).od i l ks hr
          obtain ⟨kb, rfl, e2⟩ := key_rep r1 q3
          refine ⟨_, h1, l, _, rfl, DGet.t h2 ((S.same s1).visIn _ _ e2), ?_⟩
          rw [(kv_get (keyI ns) h3).1]
          exact qq H1 s1
      · cases h
    · cases h
  · cases h
theorem cm_inD (i : Nat) {x : Str} (hu : X.A.units + 65 < cLine) (hk : EM X b mk) (hN : X.N[i]? = some x := by rfl) (hv : Vis X.env.scope x := by first | exact Or.inl rfl | exact Or.inr (Or.inl rfl) | exact Or.inr (Or.inr rfl)) (hd : (x == ("__debug__" : Str)) = false := by decide) (hcd : (x == ("__classdict__" : Str)) = false := by decide) :
    CM X .In b (.Name x p) (cInD i mk) := .mk fun C ρ k q => (inDR_ok i hu hk hN hv hd hcd q).1
theorem cm_ninD (i : Nat) {x : Str} (hu : X.A.units + 65 < cLine) (hk : EM X b mk) (hN : X.N[i]? = some x := by rfl) (hv : Vis X.env.scope x := by first | exact Or.inl rfl | exact Or.inr (Or.inl rfl) | exact Or.inr (Or.inr rfl)) (hd : (x == ("__debug__" : Str)) = false := by decide) (hcd : (x == ("__classdict__" : Str)) = false := by decide) :
    CM X .NotIn b (.Name x p) (cNotInD i mk) := .mk fun C ρ k q => by
  obtain ⟨k', q', rfl⟩ := notR_ok q
  exact (inDR_ok i hu hk hN hv hd hcd q').2
/-- len(d) -/
def eLenD (i : Nat) : MX := fun E => match nthS E i with
  | .od ks => .ok (.im (.int ks.length))
  | _ => .bad
theorem em_lenD (i : Nat) {x : Str} {p2 : Pos} (hm : X.mg "len" = none) (hN : X.N[i]? = some x := by rfl) (hv : Vis X.env.scope x := by first | exact Or.inl rfl | exact Or.inr (Or.inl rfl) | exact Or.inr (Or.inr rfl)) (hg : Gl X "len" := by rfl) (hd : (x == ("__debug__" : Str)) = false := by decide) (hcd : (x == ("__classdict__" : Str)) = false := by decide)
    (he : starEach [.Name x p2] X.env = (false, eval (.Name x p2) X.env) :: starEach [] X.env := by exact se_of rfl) : EM X (.Call (.Name "len" p) [.Name x p2] [] pos) (eLenD i) := .mk fun C ρ => by
  unfold eLenD
  split
  · rename_i ks q
    obtain ⟨l, hr⟩ := nth_od q
    show EE X C ρ _ _
    intro σ H S Q qq
    obtain ⟨h1, xs, h2, h3⟩ := S.od i l ks hr
    refine wpE_of (pe_callB call_len_dT hg hm PySem.boot_len (pa_cons (pe_var hN hv hd hcd) pa_nil he) (by decide) (by decide) he rfl) ⟨_, h1, l, xs, rfl, h2, ?_⟩
    rw [kv_len h3]
    exact qq _ H (Same.refl H) (.at _)
  · trivial
/-- xs.reverse(), xs.clear(), xs of one's own -/
theorem reps_rev {K : PySem.W.Frag} {H : Hp} : ∀ {xs : List V} {ds : List D}, Reps K H xs ds → Reps K H xs.reverse ds.reverse
  | _, _, .nil => .nil
  | _, _, .cons r t => by
    rw [List.reverse_cons, List.reverse_cons]
    exact (reps_rev t).append (.cons r .nil)
def sReverse (i : Nat) : Fr → O := fun E => match nthS E i with
  | .ow ds => .nx (setS E i (.ow ds.reverse))
  | _ => .bad
def sClear (i : Nat) : Fr → O := fun E => match nthS E i with
  | .ow _ => .nx (setS E i (.ow []))
  | _ => .bad
theorem sm_reverse (i : Nat) {x : Str} {p1 p2 p3 : Pos} (hN : X.N[i]? = some x := by rfl) (hv : Vis X.env.scope x := by first | exact Or.inl rfl | exact Or.inr (Or.inl rfl) | exact Or.inr (Or.inr rfl)) (hs : swapsWith (.Call (.Attribute (.Name x p1) "reverse" p2) [] [] p3) none pos.line X.env = pure false := by rfl)
    (hline : (p2.endLine == p3.line) = true := by rfl) (hd : (x == ("__debug__" : Str)) = false := by decide) (hcd : (x == ("__classdict__" : Str)) = false := by decide) : SM X (.Expr (.Call (.Attribute (.Name x p1) "reverse" p2) [] [] p3) pos) (sReverse i) := .mk fun C ρ P ok => by
  unfold sReverse at ok
  split at ok
  · rename_i ds q
    obtain ⟨l, hr⟩ := nth_ow q
    intro σ H D S L
    obtain ⟨h1, xs, h2, h3⟩ := S.ow i l ds hr
    refine wpS_of (ps_expr (pe_bm0 PySem.F.plainAttrs_list PySem.F.slot_list_reverse PySem.F.type_list_reverse mt_reverse (pe_var hN hv hd hcd) rfl hline) hs) ⟨_, h1, .inl ⟨rfl, _, .inl (.inl h2)⟩, ?_⟩
    obtain ⟨S2, s2⟩ := S.updOw i hr (reps_rev h3)
    exact ⟨l, xs, rfl, rfl, h2, L.nx _ _ _ (ok _ (frOf_set ..)) S2 s2⟩
  · exact ok.elim
theorem sm_clear (i : Nat) {x : Str} {p1 p2 p3 : Pos} (hN : X.N[i]? = some x := by rfl) (hv : Vis X.env.scope x := by first | exact Or.inl rfl | exact Or.inr (Or.inl rfl) | exact Or.inr (Or.inr rfl)) (hs : swapsWith (.Call (.Attribute (.Name x p1) "clear" p2) [] [] p3) none pos.line X.env = pure false := by rfl)
    (hline : (p2.endLine == p3.line) = true := by rfl) (hd : (x == ("__debug__" : Str)) = false := by decide) (hcd : (x == ("__classdict__" : Str)) = false := by decide) : SM X (.Expr (.Call (.Attribute (.Name x p1) "clear" p2) [] [] p3) pos) (sClear i) := .mk fun C ρ P ok => by
  unfold sClear at ok
  split at ok
  · rename_i ds q
    obtain ⟨l, hr⟩ := nth_ow q
    intro σ H D S L
    obtain ⟨h1, xs, h2, h3⟩ := S.ow i l ds hr
    refine wpS_of (ps_expr (pe_bm0 PySem.F.plainAttrs_list PySem.F.slot_list_clear PySem.F.type_list_clear mt_clear (pe_var hN hv hd hcd) rfl hline) hs) ⟨_, h1, .inl ⟨rfl, _, .inl (.inl h2)⟩, ?_⟩
    obtain ⟨S2, s2⟩ := S.updOw i hr (xs := []) (es := []) .nil
    exact ⟨l, xs, rfl, rfl, h2, L.nx _ _ _ (ok _ (frOf_set ..)) S2 s2⟩
  · exact ok.elim
end
end DL

/-! ### zip of three sequences -/
namespace DL
open PySem PySem.Spec PyProof.Rows L2
theorem draws_sk {prog : Program} {w : World} {A : Around} (t : Bool) (hh : A.handled = none) (it a : Addr) (hne : a ≠ it) (items : Array Value) : Draws prog w A it [it, a] items.size (fun i v => items[i]? = some v) (fun i h => Ik t h it a i ∧ Sk t h a items) := by
  cases t with
  | true => exact Draws.tuple hh it a hne items
  | false => exact Draws.list hh it a hne items
theorem begins_sk (t : Bool) (a : Addr) (items : Array Value) : Begins (.ref a) (itO t a) fun h => Sk t h a items := by
  cases t with
  | true => exact begins_tuple a items
  | false => exact begins_list a items
theorem ik_new {t : Bool} {g : Heap} {i a : Addr} (e : g.get? i = some (itO t a)) : Ik t g i a 0 := by
  cases t with
  | true => exact ⟨_, e, rfl, rfl⟩
  | false => exact ⟨_, e, rfl, rfl⟩
def Itz3 (K : PySem.W.Frag) (t1 t2 t3 : Bool) (a b c : Addr) : It :=
  ⟨fun i H => ∃ (xs ys zs : List V), SqK K t1 H a xs ∧ SqK K t2 H b ys ∧ SqK K t3 H c zs ∧ i < min (min xs.length ys.length) zs.length,
    fun i H v H' => ∃ T x y z, v = .ref T ∧ H T = none ∧ H' = upd H T (.tup [x, y, z]) ∧ (∀ xs, SqK K t1 H a xs → xs[i]? = some x) ∧ (∀ ys, SqK K t2 H b ys → ys[i]? = some y) ∧ ∀ zs, SqK K t3 H c zs → zs[i]? = some z,
    fun i H => ∃ xs ys zs : List V, SqK K t1 H a xs ∧ SqK K t2 H b ys ∧ SqK K t3 H c zs ∧ i = min (min xs.length ys.length) zs.length⟩
/-- the zip object of three, its tuples and its iterators -/
def Zp3 (t1 t2 t3 : Bool) (g : Heap) (z p r i1 i2 i3 a b c : Addr) (n : Nat) : Prop :=
  IsZip g z p r .none ∧ IsTupOf3 g p (.ref i1) (.ref i2) (.ref i3) ∧ (∃ a1 a2 a3, IsTupOf3 g r a1 a2 a3) ∧ Ik t1 g i1 a n ∧ Ik t2 g i2 b n ∧ Ik t3 g i3 c n
theorem six {P : Addr → Prop} {z p r i j k : Addr} (h1 : P z) (h2 : P p) (h3 : P r) (h4 : P i) (h5 : P j) (h6 : P k) : ∀ c ∈ [z, p, r, i, j, k], P c := fun c hc => by
  have e : c = z ∨ c = p ∨ c = r ∨ c = i ∨ c = j ∨ c = k := by simpa using hc
  rcases e with rfl | rfl | rfl | rfl | rfl | rfl <;> assumption
theorem Ik.lt {t : Bool} {g : Heap} {i a : Addr} {k : Nat} (h : Ik t g i a k) : i < g.objs.size := by
  obtain ⟨_, e, _⟩ := h.obj
  exact Heap.lt_size e
theorem turn_zip3 {P : Program} {w : World} {K : PySem.W.Frag} {t1 t2 t3 : Bool} {elts : List Expr} {kk : Nat} {tpos : Pos} {a b c z p r i1 i2 i3 : Addr} (S : ZipSep3 z p r i1 i2 i3 [i1, a] [i2, b] [i3, c]) (n1 : a ≠ i1) (n2 : b ≠ i2) (n3 : c ≠ i3) :
    Turn P w K (.Tuple elts kk tpos) (Itz3 K t1 t2 t3 a b c) [z, p, r, i1, i2, i3] z (fun n g => Zp3 t1 t2 t3 g z p r i1 i2 i3 a b c n) where
  mem := by simp
  obj := fun n g st => by
    obtain ⟨zz, zp, ⟨_, _, _, zr⟩, k1, k2, k3⟩ := st
    have ob : ∀ {t : Bool} {i a : Addr}, Ik t g i a n → ∃ o, g.get? i = some o ∧ ∀ v, o.data ≠ .cell v := fun h => by
      obtain ⟨o, e, d⟩ := h.obj
      exact ⟨o, e, fun v q => by rw [d] at q; cases q⟩
    exact six ⟨_, zz, fun v q => nomatch q⟩ ⟨_, zp, fun v q => nomatch q⟩ ⟨_, zr, fun v q => nomatch q⟩ (ob k1) (ob k2) (ob k3)
  keep := fun n g g' st k => by
    obtain ⟨zz, zp, ⟨_, _, _, zr⟩, k1, k2, k3⟩ := st
    exact ⟨k z (by simp) _ zz, k p (by simp) _ zp, ⟨_, _, _, k r (by simp) _ zr⟩, k1.stay fun o q => k i1 (by simp) o q, k2.stay fun o q => k i2 (by simp) o q, k3.stay fun o q => k i3 (by simp) o q⟩
  item := by
    intro X hP hw hK hc n pins s σ H E I hf st hg
    subst hP hw hK
    obtain ⟨zz, zp, zr, k1, k2, k3⟩ := st
    obtain ⟨xs, ys, zs, qx, qy, qz, hn⟩ := hg
    obtain ⟨us, rx, px⟩ := sk_of I qx
    obtain ⟨vs, ry, py⟩ := sk_of I qy
    obtain ⟨ws, rz, pz⟩ := sk_of I qz
    have l1 := rx.length
    have l2 := ry.length
    have l3 := rz.length
    have hh : X.A.in1.handled = none := I.ok.hd hc
    have W := WalksT.zipD3 (prog := X.prog) (w := X.w) (A := X.A) S (draws_sk t1 hh i1 a n1 us.toArray) (draws_sk t2 hh i2 b n2 vs.toArray) (draws_sk t3 hh i3 c n3 ws.toArray)
    have lt : ∀ d ∈ [z, p, r, i1, i2, i3], d < s.heap.objs.size := by
      obtain ⟨_, _, _, zr⟩ := zr
      exact six (Heap.lt_size zz) (Heap.lt_size zp) (Heap.lt_size zr) k1.lt k2.lt k3.lt
    refine W.item n s _ _ (by simp only [List.size_toArray]; omega) ⟨zz, zp, zr, ⟨k1, px⟩, ⟨k2, py⟩, ⟨k3, pz⟩⟩ fun T vals h' tk pt hT isT mid hk => ⟨_, rfl, ?_⟩
    obtain ⟨u1, u2, u3, e1, e2, e3, rfl⟩ := pt
    refine W.go elts kk tpos n T { s with heap := h', toks := tk } _ _ mid fun g st' hk2 => ?_
    obtain ⟨zz', zp', zr', ⟨k1', _⟩, ⟨k2', _⟩, ⟨k3', _⟩⟩ := st'
    have hx : us[n]? = some u1 := by simpa using e1
    have hy : vs[n]? = some u2 := by simpa using e2
    have hz : ws[n]? = some u3 := by simpa using e3
    have gx : ∃ x, xs[n]? = some x ∧ RelV x u1 := by
      obtain ⟨u, h1, h2⟩ := rx.get (List.getElem?_eq_getElem (show n < xs.length by omega))
      cases h1.symm.trans hx
      exact ⟨_, List.getElem?_eq_getElem _, h2⟩
    have gy : ∃ x, ys[n]? = some x ∧ RelV x u2 := by
      obtain ⟨u, h1, h2⟩ := ry.get (List.getElem?_eq_getElem (show n < ys.length by omega))
      cases h1.symm.trans hy
      exact ⟨_, List.getElem?_eq_getElem _, h2⟩
    have gz : ∃ x, zs[n]? = some x ∧ RelV x u3 := by
      obtain ⟨u, h1, h2⟩ := rz.get (List.getElem?_eq_getElem (show n < zs.length by omega))
      cases h1.symm.trans hz
      exact ⟨_, List.getElem?_eq_getElem _, h2⟩
    obtain ⟨x, hx', ru⟩ := gx
    obtain ⟨y, hy', rv⟩ := gy
    obtain ⟨v, hz', rw'⟩ := gz
    have ap := W.apart _ _ _ mid
    have isT' : g.IsTuple T #[u1, u2, u3] := isT.at fun o e => hk2 T o ap e
    have ok : ObjOk X.prog X.w (upd H T (.tup [x, y, v])) g T (.tup [x, y, v]) := ⟨by show 3 ≤ sizeLine; decide, [u1, u2, u3], .cons ru (.cons rv (.cons rw' .nil)), isT'⟩
    have I1 : Inv X pins σ (upd H T (.tup [x, y, v])) { s with heap := g, toks := tk } := I.turnedNew (t' := tk) (ch := [z, p, r, i1, i2, i3])
      (fun d o hb q => hk2 d o (fun q' => hb (by simp at q' ⊢; rcases q' with q' | q' | q' | q' | q' <;> simp [q'])) (hk d o (fun q' => hb (by simp at q' ⊢; rcases q' with q' | q' | q' | q' | q' <;> simp [q'])) q)) hf hT ok
    exact ⟨.ref T, _, I1, rfl, ⟨_, x, y, v, rfl, I.hok.fresh hT, rfl, fun l hl => by rw [sk_inj I hl qx]; exact hx', fun l hl => by rw [sk_inj I hl qy]; exact hy', fun l hl => by rw [sk_inj I hl qz]; exact hz'⟩,
      ⟨zz', zp', zr', k1', k2', k3'⟩, fun d hd => by rw [upd_ne (Nat.ne_of_lt (Nat.lt_of_lt_of_le (lt d hd) hT))]; exact (hf d hd).1⟩
  done := by
    intro X hP hw hK hc n pins s σ H E I hf st hg
    subst hP hw hK
    obtain ⟨zz, zp, zr, k1, k2, k3⟩ := st
    obtain ⟨xs, ys, zs, qx, qy, qz, hn⟩ := hg
    obtain ⟨us, rx, px⟩ := sk_of I qx
    obtain ⟨vs, ry, py⟩ := sk_of I qy
    obtain ⟨ws, rz, pz⟩ := sk_of I qz
    have l1 := rx.length
    have l2 := ry.length
    have l3 := rz.length
    have hh : X.A.in1.handled = none := I.ok.hd hc
    have W := WalksT.zipD3 (prog := X.prog) (w := X.w) (A := X.A) S (draws_sk t1 hh i1 a n1 us.toArray) (draws_sk t2 hh i2 b n2 vs.toArray) (draws_sk t3 hh i3 c n3 ws.toArray)
    have en : n = min (min us.toArray.size vs.toArray.size) ws.toArray.size := by simp only [List.size_toArray]; omega
    refine W.done s _ _ ?_ fun g tk hk => ⟨rfl, I.turnedL (t' := tk) (ch := [z, p, r, i1, i2, i3]) (fun d o hb q => hk d o (fun q' => hb (by simp at q' ⊢; rcases q' with q' | q' | q' | q' | q' <;> simp [q'])) q) hf⟩
    rw [← en]
    exact ⟨zz, zp, zr, ⟨k1, px⟩, ⟨k2, py⟩, ⟨k3, pz⟩⟩
  self := fun A n s Q E st h => wpAny_pyIter_zip st.1 h
theorem valsT {x y z : V} {us : List Value} (r : Vals [x, y, z] us) : ∃ u w' t', us = [u, w', t'] ∧ RelV x u ∧ RelV y w' ∧ RelV z t' := by
  cases r with
  | cons r1 r2 =>
    cases r2 with
    | cons r3 r4 =>
      cases r4 with
      | cons r5 r6 => cases r6; exact ⟨_, _, _, rfl, r1, r3, r5⟩
section
variable {X : Cx} {C : Ctx} {ρ : Rho} {e a b c tg : Expr} {ma mb mc : MX} {ds es' fs' : List D} {pos p tpos : Pos} {elts : List Expr} {kk : Nat}
def iZip3 (K : PySem.W.Frag) (ta : TA) : TI := fun σ H R => ta σ H fun vs H1 => ∃ a b c xs ys zs t1 t2 t3, vs = [.ref a, .ref b, .ref c] ∧ SqK K t1 H1 a xs ∧ SqK K t2 H1 b ys ∧ SqK K t3 H1 c zs ∧ R (Itz3 K t1 t2 t3 a b c) H1
theorem pi_zip3 {ta : TA} (hg : Gl X "zip") (hm : X.mg "zip" = none) (ha : PA X [a, b, c] ta) (hs : starEach [a, b, c] X.env = (false, eval a X.env) :: starEach [b, c] X.env := by exact se_of rfl) (hpl : (backTo pos (starEach [b, c] X.env)).any (·.1) = false := by rfl) :
    PI X (.Tuple elts kk tpos) (.Call (.Name "zip" p) [a, b, c] [] pos) (iZip3 X.K ta) := by
  refine ⟨fun pins s σ H R I h => Call_ (ld_blt I hg hm PyProof.Rows.boot_zip (PyProof.Rows.callWith_type1 (thn (ha.run pos pins s σ H _ I h) fun us s1 ⟨vs, H1, I1, r1, q1⟩ => ?_) hs hpl))⟩
  obtain ⟨l, m, k, xs, ys, zs, t1, t2, t3, ex, qx, qy, qz, q⟩ := q1
  subst ex
  obtain ⟨va, vb, vc, rfl, ra, rb, rc⟩ := valsT r1
  cases (show va = Value.ref l from ra)
  cases (show vb = Value.ref m from rb)
  cases (show vc = Value.ref k from rc)
  obtain ⟨us, rx, px⟩ := sk_of I1 qx
  obtain ⟨vs, ry, py⟩ := sk_of I1 qy
  obtain ⟨ws, rz, pz⟩ := sk_of I1 qz
  have lt : ∀ {t : Bool} {a : Addr} {zs : Array Value}, Sk t s1.heap a zs → a < s1.heap.objs.size := fun {t a zs} h => by
    cases t with
    | true => obtain ⟨o, ho, _⟩ := h; exact Heap.lt_size ho
    | false => obtain ⟨o, ho, _⟩ := h; exact Heap.lt_size ho
  refine zip_begins3 (begins_sk t1 l us.toArray) (begins_sk t2 m vs.toArray) (begins_sk t3 k ws.toArray) px py pz fun g zz zp zr e1 e2 e3 _ hk => wpAny_pyIter_zip zz ?_
  have one : ∀ {x : Addr}, x < s1.heap.objs.size → ∀ y ∈ [x], y < s1.heap.objs.size := fun h y hy => by rw [List.mem_singleton] at hy; subst hy; exact h
  have S := zip_sep3 (N := s1.heap.objs.size) (fp1 := [l]) (fp2 := [m]) (fp3 := [k]) (one (lt px)) (one (lt py)) (one (lt pz))
  have o1 := lt px
  have o2 := lt py
  have o3 := lt pz
  refine ⟨s1.heap.objs.size + 5, [s1.heap.objs.size + 5, s1.heap.objs.size + 3, s1.heap.objs.size + 4, s1.heap.objs.size, s1.heap.objs.size + 1, s1.heap.objs.size + 2], _, _, H1, rfl, I1.kept (t' := s1.toks) hk,
    turn_zip3 S (Nat.ne_of_lt o1) (Nat.ne_of_lt (Nat.lt_succ_of_lt o2)) (Nat.ne_of_lt (Nat.lt_succ_of_lt (Nat.lt_succ_of_lt o3))), ⟨zz, zp, ⟨_, _, _, zr⟩, ik_new e1, ik_new e2, ik_new e3⟩, ?_, q⟩
  have fr : ∀ d : Nat, FpOk X pins H1 (s1.heap.objs.size + d) := fun d => I1.fpOk (Nat.le_add_right _ _) (I1.hok.fresh (Nat.le_add_right _ _))
  exact six (fr 5) (fr 3) (fr 4) (fr 0) (fr 1) (fr 2)
def zip3D (xs ys zs : List D) : List D := List.zipWith (fun x (yz : D × D) => D.tup [x, yz.1, yz.2]) xs (ys.zip zs)
theorem zip3D_len (xs ys zs : List D) : (zip3D xs ys zs).length = min xs.length (min ys.length zs.length) := by unfold zip3D; rw [List.length_zipWith, List.length_zip]
theorem zip3D_get {xs ys zs : List D} {i : Nat} {x y z : D} (h1 : xs[i]? = some x) (h2 : ys[i]? = some y) (h3 : zs[i]? = some z) : (zip3D xs ys zs)[i]? = some (.tup [x, y, z]) := by
  unfold zip3D
  rw [List.getElem?_zipWith, h1, List.zip, List.getElem?_zipWith, h2, h3]
theorem yl_triple {K : PySem.W.Frag} {V0 H : Hp} {C : Ctx} {o : List Addr} {T : Addr} {x y z : V} {d1 d2 d3 : D} (l : Later C V0 o H) (hT : H T = none) (r1 : Rep K V0 x d1) (r2 : Rep K V0 y d2) (r3 : Rep K V0 z d3) : Rep K (vis C o (upd H T (.tup [x, y, z]))) (.ref T) (.tup [d1, d2, d3]) := by
  have n0 : C.H0 T = none := l.hh.free hT
  have no : T ∉ o := fun z => l.fr T (.inl z) hT
  have nh : T ∉ C.hid := fun z => l.fr T (.inr z) hT
  have m : Same V0 (vis C o (upd H T (.tup [x, y, z]))) := l.vi.trans (vis_same (same_upd hT))
  exact .tup (by rw [vis_at n0 no nh, upd_same]) (.cons (Rep.mono m _ r1) (.cons (Rep.mono m _ r2) (.cons (Rep.mono m _ r3) .nil)))
theorem yl_zip3 {K : PySem.W.Frag} {t1 t2 t3 : Bool} {V0 : Hp} {a b c : Addr} {xs ys zs : List V} {ds es fs : List D} (sq : SqK K t1 V0 a xs) (r : Reps K V0 xs ds) (sq2 : SqK K t2 V0 b ys) (r2 : Reps K V0 ys es) (sq3 : SqK K t3 V0 c zs) (r3 : Reps K V0 zs fs) : Yl K V0 (Itz3 K t1 t2 t3 a b c) (zip3D ds es fs) where
  go := fun C o H i l hi => by
    rw [zip3D_len] at hi
    exact ⟨xs, ys, zs, sq.mono l.all, sq2.mono l.all, sq3.mono l.all, by rw [r.length, r2.length, r3.length]; omega⟩
  yl := fun C o H i x H' l hi y => by
    rw [zip3D_len] at hi
    obtain ⟨T, v, w, u, rfl, hT, rfl, f1, f2, f3⟩ := y
    obtain ⟨v', h1, q1⟩ := r.get (List.getElem?_eq_getElem (show i < ds.length by omega))
    obtain ⟨w', h2, q2⟩ := r2.get (List.getElem?_eq_getElem (show i < es.length by omega))
    obtain ⟨u', h3, q3⟩ := r3.get (List.getElem?_eq_getElem (show i < fs.length by omega))
    cases h1.symm.trans (f1 xs (sq.mono l.all))
    cases h2.symm.trans (f2 ys (sq2.mono l.all))
    cases h3.symm.trans (f3 zs (sq3.mono l.all))
    exact ⟨_, zip3D_get (List.getElem?_eq_getElem _) (List.getElem?_eq_getElem _) (List.getElem?_eq_getElem _), same_upd hT, yl_triple l hT q1 q2 q3⟩
  stop := fun C o H l => ⟨xs, ys, zs, sq.mono l.all, sq2.mono l.all, sq3.mono l.all, by rw [zip3D_len, r.length, r2.length, r3.length]; omega⟩
theorem ei_zip3 (hm : X.mg "zip" = none) (ha : EE X C ρ a (.lst ds)) (hb : EE X C ρ b (.lst es')) (hc : EE X C ρ c (.lst fs')) (hg : Gl X "zip" := by rfl) (hs : starEach [a, b, c] X.env = (false, eval a X.env) :: starEach [b, c] X.env := by exact se_of rfl) (hs2 : starEach [b, c] X.env = (false, eval b X.env) :: starEach [c] X.env := by exact se_of rfl)
    (hs3 : starEach [c] X.env = (false, eval c X.env) :: starEach [] X.env := by exact se_of rfl) (hpl : (backTo pos (starEach [b, c] X.env)).any (·.1) = false := by rfl) :
    EI X C ρ (.Tuple elts kk tpos) (.Call (.Name "zip" p) [a, b, c] [] pos) (zip3D ds es' fs') := fun σ H S R q =>
  wpI_of (pi_zip3 hg hm (pa_cons pe_wp (pa_cons pe_wp (pa_cons pe_wp pa_nil hs3) hs2) hs) hs hpl) (ha σ H S _ fun v H1 s1 r1 => hb σ H1 (S.same s1) _ fun u H2 s2 r2 => hc σ H2 ((S.same s1).same s2) _ fun t H3 s3 r3 => by
    cases r1 with
    | lst sq rs =>
      cases r2 with
      | lst sq2 rs2 =>
        cases r3 with
        | lst sq3 rs3 =>
          have m2 := vis_same (C := C) (o := ows ρ) s2
          have m3 := vis_same (C := C) (o := ows ρ) s3
          have i3 := (((S.same s1).same s2).same s3).visIn
          exact ⟨_, _, _, _, _, _, false, false, false, rfl, i3.seq (m3.seq (m2.seq sq)), i3.seq (m3.seq sq2), i3.seq sq3, q _ H3 ((s1.trans s2).trans s3) (yl_zip3 (t1 := false) (t2 := false) (t3 := false) (m3.seq (m2.seq sq)) (Reps.mono (m2.trans m3) _ rs) (m3.seq sq2) (Reps.mono m3 _ rs2) sq3 rs3)⟩)
def zip3R : R D → R D → R D → R (List D)
  | .ok (.lst xs), .ok (.lst ys), .ok (.lst zs) => .ok (zip3D xs ys zs)
  | _, _, _ => .bad
def iZip3A (ma mb mc : MX) : Fr → R (List D) := fun E => zip3R (toD (ma E)) (toD (mb E)) (toD (mc E))
theorem im_zip3 (hm : X.mg "zip" = none) (ha : EM X a ma) (hb : EM X b mb) (hc : EM X c mc) (hg : Gl X "zip" := by rfl) (hs : starEach [a, b, c] X.env = (false, eval a X.env) :: starEach [b, c] X.env := by exact se_of rfl) (hs2 : starEach [b, c] X.env = (false, eval b X.env) :: starEach [c] X.env := by exact se_of rfl)
    (hs3 : starEach [c] X.env = (false, eval c X.env) :: starEach [] X.env := by exact se_of rfl) (hpl : (backTo pos (starEach [b, c] X.env)).any (·.1) = false := by rfl) : IM X (.Tuple elts kk tpos) (.Call (.Name "zip" p) [a, b, c] [] pos) (iZip3A ma mb mc) := .mk fun C ρ ds q => by
  unfold iZip3A zip3R at q
  split at q
  · rename_i q1 q2 q3; cases q; exact ei_zip3 hm (ha.ee q1) (hb.ee q2) (hc.ee q3) hg hs hs2 hs3 hpl
  · cases q
theorem ev_zip3 {E : Fr} : iZip3A ma mb mc E = zip3R (toD (ma E)) (toD (mb E)) (toD (mc E)) := rfl
theorem ev_zip3_l {xs ys zs : List D} : zip3R (.ok (.lst xs)) (.ok (.lst ys)) (.ok (.lst zs)) = .ok (zip3D xs ys zs) := rfl
end
end DL

/-! ### a loop over a list of one's own, which its body leaves alone -/
namespace DL
open PySem PySem.Spec PyProof.Rows L2
/-- what such a body does: it sets slots, or returns -/
inductive Kr where
  | go (ss : List (Nat × D))
  | ct (ss : List (Nat × D))
  | rt (r : Ret)
  | bad
def OkK (P : Post) (ρ : Rho) : Kr → Prop
  | .go ss => P.nx (setsR ρ ss)
  | .ct ss => P.ct (setsR ρ ss)
  | .rt r => P.rt r
  | .bad => False
section
variable {X : Cx} {C : Ctx} {ρ : Rho} {e c tg iter : Expr} {st : Stmt} {sts ts us body : List Stmt} {pos p : Pos}
structure KSM (X : Cx) (st : Stmt) (f : Fr → Kr) : Prop where
  run : ∀ C ρ P, OkK P ρ (f (frOf ρ)) → WS X C ρ st P
structure KBM (X : Cx) (sts : List Stmt) (f : Fr → Kr) : Prop where
  run : ∀ C ρ P, OkK P ρ (f (frOf ρ)) → WP X C ρ sts P
theorem setsR_cat : ∀ (ss ss' : List (Nat × D)) (ρ : Rho), setsR ρ (ss ++ ss') = setsR (setsR ρ ss) ss'
  | [], _, _ => rfl
  | (i, d) :: ss, ss', ρ => setsR_cat ss ss' (ρ.set i (.im d))
theorem setsR_ne {i : Nat} : ∀ {ss : List (Nat × D)} {ρ : Rho}, (ss.all fun q => q.1 != i) = true → (setsR ρ ss)[i]? = ρ[i]?
  | [], _, _ => rfl
  | (j, d) :: ss, ρ, h => by
    rw [List.all_cons, Bool.and_eq_true] at h
    rw [setsR, setsR_ne h.2, List.getElem?_set_ne (by simpa using h.1)]
def kNil : Fr → Kr := fun _ => .go []
def Kr.pre (ss : List (Nat × D)) : Kr → Kr
  | .go ss' => .go (ss ++ ss')
  | .ct ss' => .ct (ss ++ ss')
  | o => o
def Kr.then (E : Fr) (g : Fr → Kr) : Kr → Kr
  | .go ss => (g (setsF E ss)).pre ss
  | o => o
def kSq (f g : Fr → Kr) : Fr → Kr := fun E => (f E).then E g
def kIf (t : Fr → R Bool) (f g : Fr → Kr) : Fr → Kr := fun E => match t E with
  | .ok true => f E
  | .ok false => g E
  | _ => .bad
def kSet (i : Nat) (m : MX) : Fr → Kr := fun E => match toD (m E) with
  | .ok d => .go [(i, d)]
  | _ => .bad
def kRt (f : Fr → O) : Fr → Kr := fun E => match f E with
  | .rt r => .rt r
  | _ => .bad
def kCont : Fr → Kr := fun _ => .ct []
theorem km_nil : KBM X [] kNil := .mk fun C ρ P h => wp_nil h
theorem km_cons {f g : Fr → Kr} (h : KSM X st f) (k : KBM X sts g) : KBM X (st :: sts) (kSq f g) := .mk fun C ρ P ok => wp_cons (h.run C ρ _ (by
  unfold kSq at ok
  revert ok
  generalize f (frOf ρ) = o
  intro ok
  cases o with
  | go ss =>
    refine k.run C _ P ?_
    rw [frOf_sets]
    unfold Kr.then at ok
    dsimp only at ok
    revert ok
    generalize g (setsF (frOf ρ) ss) = o2
    intro ok
    cases o2 with
    | go ss' => have ok' : P.nx (setsR ρ (ss ++ ss')) := ok; rw [setsR_cat] at ok'; exact ok'
    | ct ss' => have ok' : P.ct (setsR ρ (ss ++ ss')) := ok; rw [setsR_cat] at ok'; exact ok'
    | rt r => exact ok
    | bad => exact ok
  | ct ss => exact ok
  | rt r => exact ok
  | bad => exact ok))
theorem ks_if {t : Fr → R Bool} {f g : Fr → Kr} (h : TM X c t) (h1 : KBM X ts f) (h2 : KBM X us g) : KSM X (.If c ts us pos) (kIf t f g) := .mk fun C ρ P ok => by
  unfold kIf at ok
  split at ok
  · rename_i q
    exact ws_if (h C ρ _ q) (fun _ => h1.run C ρ P ok) fun z => nomatch z
  · rename_i q
    exact ws_if (h C ρ _ q) (fun z => nomatch z) fun _ => h2.run C ρ P ok
  · exact ok.elim
theorem ks_set {m : MX} (i : Nat) {x : Str} {p' : Pos} (h : EM X e m) (hN : X.N.Nodup) (hi : X.N[i]? = some x := by rfl) (hx : Loc X.env.scope x := by first | exact Or.inl rfl | exact Or.inr rfl) (hs : swapsWith e (some (.Name x p')) pos.line X.env = pure false := by rfl)
    (hf : X.fn x = true ∨ X.env.scope.names.lookup x = some .local := by first | exact .inl rfl | exact .inr rfl) : KSM X (.Assign [.Name x p'] e pos) (kSet i m) := .mk fun C ρ P ok => by
  unfold kSet at ok
  split at ok
  · rename_i d q
    exact ws_set i (h.ee q) rfl ok hN hi hx hs hf
  · exact ok.elim
theorem ks_rt {f : Fr → O} (h : SM X st f) : KSM X st (kRt f) := .mk fun C ρ P ok => by
  unfold kRt at ok
  split at ok
  · rename_i r q
    exact h C ρ P (by rw [q]; exact ok)
  · exact ok.elim
def forK (g : D → R (List (Nat × D))) (f : Fr → Kr) (i : Nat) : List D → Fr → O
  | [], E => .nx E
  | d :: ds, E => match g d with
    | .ok ss => if (ss.all fun q => q.1 != i) = true then (match f (setsF E ss) with
        | .go ss' => if (ss'.all fun q => q.1 != i) = true then forK g f i ds (setsF (setsF E ss) ss') else .bad
        | .ct ss' => if (ss'.all fun q => q.1 != i) = true then forK g f i ds (setsF (setsF E ss) ss') else .bad
        | .rt r => .rt r
        | .bad => .bad) else .bad
    | _ => .bad
def sForO (i : Nat) (g : D → R (List (Nat × D))) (f : Fr → Kr) : Fr → O := fun E => match nthS E i with
  | .ow ds => forK g f i ds E
  | _ => .bad
theorem sm_forO {g : D → R (List (Nat × D))} {L : List Nat} {f : Fr → Kr} (i : Nat) {x : Str} (hp : PassesOwn (model X.prog X.w) X.A X.env X.xe) (hg : GM X tg g L) (hb : KBM X body f) (hN : X.N[i]? = some x := by rfl) (hv : Vis X.env.scope x := by first | exact Or.inl rfl | exact Or.inr (Or.inl rfl) | exact Or.inr (Or.inr rfl))
    (hd : (x == ("__debug__" : Str)) = false := by decide) (hcd : (x == ("__classdict__" : Str)) = false := by decide) (hc : X.calm = true := by rfl) (hf : ∀ y, foldedSetIterable (.Name x p) X.env y = pure y := by intro _; rfl) :
    SM X (.For tg (.Name x p) body [] pos) (sForO i g f) := .mk fun C ρ P ok => by
  unfold sForO at ok
  split at ok
  · rename_i ds hs
    obtain ⟨a, hi⟩ := nth_ow hs
    generalize ho : forK g f i ds (frOf ρ) = o at ok
    intro σ H DD S L
    refine wpS_of (ps_for hp hc (pi_list (pe_var hN hv hd hcd)) pg_wp pss_wp hf) ?_
    obtain ⟨h1, xs, h2, h3⟩ := S.ow i a ds hi
    refine ⟨_, h1, a, rfl, ⟨xs, .inl (.inl h2)⟩, ?_⟩
    refine ⟨fun n m σ' H' => n + m = ds.length ∧ ∃ ρ', ρ'[i]? = some (.ow a ds) ∧ forK g f i (ds.drop n) (frOf ρ') = o ∧ SRel X.K C H' σ' ρ' ∧ Same (vis C (ows ρ) H) (vis C (ows ρ') H'), ⟨ds.length, by omega, ρ, hi, by rw [List.drop_zero]; exact ho, S, Same.refl _⟩, ?_⟩
    rintro n m σ2 H2 ⟨em, ρ2, i2, iv, S2, v2⟩
    have L2 := L.later v2
    obtain ⟨k1, ys, k2, k3⟩ := S2.ow i a ds i2
    have sq2 : SqL X.K H2 a ys := .inl (.inl k2)
    by_cases hlt : n < ds.length
    · obtain ⟨v, e1, e2⟩ := k3.get (List.getElem?_eq_getElem hlt)
      refine .inr ⟨⟨ys, v, sq2, e1⟩, fun σ' H' => ∃ ρ', ρ'[i]? = some (.ow a ds) ∧ forK g f i (ds.drop (n + 1)) (frOf ρ') = o ∧ SRel X.K C H' σ' ρ' ∧ Same (vis C (ows ρ) H) (vis C (ows ρ') H'), fun σ' H' ⟨ρ', q0, q1, S', v'⟩ => ⟨m - 1, by omega, by omega, ρ', q0, q1, S', v'⟩, fun y H3 yy => ?_⟩
      obtain ⟨rfl, yy⟩ := yy
      cases e1.symm.trans (yy ys sq2)
      have hdr : ds.drop n = ds[n] :: ds.drop (n + 1) := List.drop_eq_getElem_cons hlt
      rw [hdr, forK] at iv
      split at iv
      · rename_i ss q2
        split at iv
        · rename_i al
          refine (hg C ρ2 ds[n] ss q2).1 σ2 H3 v S2 e2 _ fun σ4 S4 s4 _ => ?_
          have v4 := v2.trans s4
          have L4 := L.later v4
          have i4 : (setsR ρ2 ss)[i]? = some (.ow a ds) := by rw [setsR_ne al]; exact i2
          have bb := hb.run C (setsR ρ2 ss) { P with nx := fun ρ' => ρ'[i]? = some (.ow a ds) ∧ forK g f i (ds.drop (n + 1)) (frOf ρ') = o, ct := fun ρ' => ρ'[i]? = some (.ow a ds) ∧ forK g f i (ds.drop (n + 1)) (frOf ρ') = o, bk := P.nx } (by
            rw [frOf_sets]
            revert iv
            generalize f (setsF (frOf ρ2) ss) = kr
            intro iv
            cases kr with
            | go ss' =>
              dsimp only at iv
              split at iv
              · rename_i al'
                exact ⟨by rw [setsR_ne al']; exact i4, by rw [frOf_sets, frOf_sets]; exact iv⟩
              · subst iv; exact ok.elim
            | ct ss' =>
              dsimp only at iv
              split at iv
              · rename_i al'
                exact ⟨by rw [setsR_ne al']; exact i4, by rw [frOf_sets, frOf_sets]; exact iv⟩
              · subst iv; exact ok.elim
            | rt r => have iv' : O.rt r = o := iv; subst iv'; exact ok
            | bad => have iv' : O.bad = o := iv; subst iv'; exact ok.elim)
          exact bb σ4 H3 _ S4 ⟨fun ρ' σ' H' q S' z => ⟨ρ', q.1, q.2, S', v4.trans z⟩, L4.nx, fun ρ' σ' H' q S' z => ⟨ρ', q.1, q.2, S', v4.trans z⟩, L4.rt, L4.tk⟩
        · subst iv; exact ok.elim
      · subst iv; exact ok.elim
    · have e : n = ds.length := by omega
      subst e
      rw [List.drop_length] at iv
      have iv' : O.nx (frOf ρ2) = o := iv
      subst iv'
      exact .inl ⟨⟨ys, sq2, by rw [k3.length]; exact Nat.le_refl _⟩, L2.nx _ _ _ (ok ρ2 rfl) S2 (Same.refl _)⟩
  · exact ok.elim
end
end DL

set_option maxHeartbeats 4000000
/-! ### sorted of a dict of one's own, keys tuples of ints -/
namespace DL
open PySem PySem.Spec PyProof.Rows L2
def encT (b : List Int) : PyData := .tuple (b.map .int)
theorem leT : PySem.W.dataLe false encT = fun p q => decide (p ≤ q) := by
  funext p q
  show (!PySem.W.dataLt (.tuple (q.map .int)) (.tuple (p.map .int))) = _
  rw [PySem.W.dataLt_tuple]
  show (!PySem.W.rowLt (q.map .int) (p.map .int)) = _
  rw [PySem.W.dataLt_ints]
  by_cases h : q < p
  · have h' : ¬ p ≤ q := fun r => List.not_lt.mpr r h
    simp [h, h']
  · have h' : p ≤ q := List.not_lt.mp h
    simp [h, h']
/-- lists of ints, rising -/
def sortI (bs : List (List Int)) : List (List Int) := bs.mergeSort fun p q => decide (p ≤ q)
theorem each_of {α β : Type} {R : α → β → Prop} : ∀ {as : List α} {bs : List β}, as.length = bs.length → (∀ (j : Nat) a b, as[j]? = some a → bs[j]? = some b → R a b) → PySem.W.EachIs R as bs
  | [], [], _, _ => .nil
  | [], _ :: _, h, _ => by simp at h
  | _ :: _, [], h, _ => by simp at h
  | a :: as, b :: bs, h, k => .cons (k 0 a b rfl rfl) (each_of (by simpa using h) fun j a b h1 h2 => k (j + 1) a b (by simpa using h1) (by simpa using h2))
theorem paired_at {α β : Type} {F : α → β → Prop} : ∀ {l : List α} {m : List β}, Paired F l m → ∀ {j : Nat} {b : β}, m[j]? = some b → ∃ a, l[j]? = some a ∧ F a b
  | _, _, .nil, j, b, h => by simp at h
  | _, _, .cons (a := a) f t, 0, b, h => by cases h; exact ⟨a, rfl, f⟩
  | _, _, .cons f t, j + 1, b, h => by
    obtain ⟨a, h1, h2⟩ := paired_at t (j := j) (by simpa using h)
    exact ⟨a, by simpa using h1, h2⟩
section
variable {X : Cx}
/-- an address that holds the tuple of the ints b -/
def IsKey (H : Hp) (v : V) (b : List Int) : Prop := ∃ T, v = V.ref T ∧ H T = some (.tup (b.map V.int))
theorem call_sortedT (hcalm : X.calm = true) (hu : X.A.units + 65 < cLine) : CallR X (.builtin "sorted") (fun xs H Q => ∃ (a : Addr) (kvs : List (List Key × V)) (bs : List (List Int)), xs = [.ref a] ∧ H a = some (.dT kvs) ∧ kvs.map (·.1) = bs.map keyI ∧ (∀ b ∈ bs, b ≠ []) ∧
    ∀ (p : Addr) (ys : List V), H p = none → PySem.W.EachIs (IsKey H) ys (sortI bs) → Q (.ref p) (upd H p (.lst ys))) := by
  intro pins s σ H xs us Q I r q
  obtain ⟨a, kvs, bs, ex, hd, hks, hne, q⟩ := q
  subst ex
  obtain ⟨u, eu, rx⟩ := vals1 r
  subst eu
  cases rx
  obtain ⟨z, lo, vs, rel, dd⟩ := dt_of I.hok hd
  obtain ⟨o, es, ep, ho, hc, hdat, he, _, _⟩ := dd
  have hm : s.heap.DictRaw a es ep := ⟨o, ho, hc, hdat⟩
  have hl : vs.length = bs.length := by
    have e := congrArg List.length hks
    rw [List.length_map, List.length_map, Paired.length rel] at e
    exact e
  have hes : es.size = bs.length := by
    have e := congrArg List.length he
    rw [List.length_map, Array.length_toList] at e
    omega
  have hz : bs.length ≤ sizeLine := by
    have e := Paired.length rel
    omega
  refine Calls.call_function_entry PyProof.Rows.kind_sorted PyProof.Rows.plain_sorted PyProof.Rows.entry_sorted (PyProof.Rows.args_sorted1 _) ?_
  unfold Builtin.«sorted»
  refine wpAny_bind (m := checkCount "sorted" 1 1 _) (wpAny_pure ?_)
  refine wpAny_bind (PySem.W.kdu_collect (A := X.A.in1) (PySem.KdlSrc.rawDict (es := es) (ep := ep) lo) (I.ok.hd hcalm) hm (by rw [hes]; exact hz) fun h' tk acc hk hacc => ?_)
  have I1 : Inv X pins σ H { s with heap := h', toks := tk } := I.kept hk
  have hal : acc.toList.length = bs.length := by rw [Array.length_toList, hacc.1, hes]
  have hR : PySem.W.EachIs (fun (v : Value) b => ∃ T, v = .ref T ∧ H T = some (.tup (b.map V.int))) acc.toList bs := each_of hal fun j v b h1 h2 => by
    obtain ⟨hj, e1⟩ := hacc.2 j v (by rw [← Array.getElem?_toList]; exact h1)
    have e2 : es.toList[j]? = some es[j] := by rw [Array.getElem?_toList, Array.getElem?_eq_getElem hj]
    rw [he, List.getElem?_map] at e2
    cases e3 : vs[j]? with
    | none => rw [e3] at e2; cases e2
    | some y =>
      rw [e3] at e2
      have e4 := Option.some.inj e2
      obtain ⟨kv, k1, k2, k3, _⟩ := paired_at rel e3
      have k4 : (kvs.map (·.1))[j]? = some kv.1 := by rw [List.getElem?_map, k1]; rfl
      rw [hks, List.getElem?_map, h2] at k4
      have k5 : keyI b = kv.1 := Option.some.inj k4
      refine ⟨y.2.1, by rw [e1, ← e4]; rfl, ?_⟩
      rw [← k5, keyI_kV] at k3
      exact k3
  refine wpAny_bind (wpAny_newList ?_ (by rw [hal]; exact hz))
  have hoL : (h'.push (seqObj "list" acc.toList.toArray 0)).get? h'.objs.size = some (seqObj "list" acc.toList.toArray 0) := Heap.get?_push_size _ rfl
  show wpAny _ _ _ _ _ { s with heap := h'.push (seqObj "list" acc.toList.toArray 0), toks := tk }
  have er : PySem.W.EachIs (fun (v : Value) b => ∃ as, Reads (h'.push (seqObj "list" acc.toList.toArray 0)) v (encT b) as ∧ h'.objs.size ∉ as) acc.toList bs := hR.mono fun v b ⟨T, e1, e2⟩ => by
    obtain ⟨_, its, g1, g2⟩ : ObjOk X.prog X.w H h' T (.tup (b.map V.int)) := I1.hok T _ e2
    obtain ⟨o2, g3, g4, n, g5⟩ := g2
    subst e1
    exact ⟨[], .tuple (Heap.get?_push_of_some _ g3) g4 g5 (vals_ints' g1), fun z => nomatch z⟩
  have alk : PySem.W.AllAlike (bs.map encT) := PySem.W.AllAlike.of fun b b' => by
    show PySem.W.alike (.tuple _) (.tuple _) = true
    simp only [PySem.W.alike, PySem.W.alike_ints]
  have srt : PySem.W.Sortable (bs.map encT) := .inl fun d hd => by
    obtain ⟨b, hb, rfl⟩ := List.mem_map.1 hd
    match b, hne b hb with
    | i :: b, _ => exact ⟨_, _, rfl⟩
  have un : ∀ b, b ∈ bs → X.A.in1.units + 1 + (encT b).depth < cLine := fun b _ => by
    have e1 : (encT b).depth ≤ 3 := by
      show PyData.depth (.tuple _) ≤ 3
      simp only [PyData.depth, PySem.W.depth_ints]
      omega
    have e2 : X.A.in1.units ≤ X.A.units + 1 := by
      show X.A.units + _ ≤ _
      omega
    omega
  refine wpAny_bind (wpAny_holding (wpAny_mono (PySem.W.list_sort_data (R := fun (v : Value) b => ∃ T, v = .ref T ∧ H T = some (.tup (b.map V.int))) (s := { s with heap := h'.push (seqObj "list" acc.toList.toArray 0), toks := tk }) (A := X.A.in1) hoL hR er alk srt hz un (Q := fun v s' => ∃ out : List Value, out.length = bs.length ∧ PySem.W.EachIs (fun (v : Value) b => ∃ T, v = .ref T ∧ H T = some (.tup (b.map V.int))) out (sortI bs) ∧ s' = { s with heap := PyProof.Rows.sortedHeap (h'.push (seqObj "list" acc.toList.toArray 0)) h'.objs.size acc.toList (List.toArray out), toks := tk }) fun out h1 h2 => ⟨out, h1, by rw [leT] at h2; exact h2, rfl⟩) (fun _ s' x => ?_) fun _ _ e => e))
  obtain ⟨out, h1, h2, rfl⟩ := x
  obtain ⟨e', he'⟩ := PyProof.Rows.sortedHeap_at (vs := acc.toList) (out := List.toArray out) hoL
  have lift : ∀ {out : List Value} {ss : List (List Int)}, PySem.W.EachIs (fun (v : Value) b => ∃ T, v = .ref T ∧ H T = some (.tup (b.map V.int))) out ss → ∃ ys : List V, Vals ys out ∧ PySem.W.EachIs (IsKey H) ys ss := by
    intro out ss h
    induction h with
    | nil => exact ⟨[], .nil, .nil⟩
    | cons r t ih =>
      obtain ⟨T, rfl, e⟩ := r
      obtain ⟨ys, i1, i2⟩ := ih
      exact ⟨V.ref T :: ys, .cons rfl i1, .cons ⟨T, rfl, e⟩ i2⟩
  obtain ⟨ys, y1, y2⟩ := lift h2
  refine wpAny_pure ⟨_, rfl, .ref h'.objs.size, upd H h'.objs.size (.lst ys), I1.laid (t' := tk) (fun b u e => ?_) (Nat.le_refl _)
    (show ObjOk X.prog X.w _ _ _ (.lst ys) from ⟨by rw [y1.length, h1]; exact hz, out, e', y1, he'⟩), rfl, q h'.objs.size ys (I1.hok.fresh (Nat.le_refl _)) y2⟩
  have hb : b < h'.objs.size := Heap.lt_size e
  rw [PyProof.Rows.sortedHeap_old (Nat.ne_of_lt hb) (by rw [size_push']; exact Nat.lt_succ_of_lt hb)]
  exact Heap.get?_push_of_some _ e
end
def unI : List Key → Option (List Int)
  | [] => some []
  | .inl i :: r => (unI r).map (i :: ·)
  | .inr _ :: _ => none
theorem unI_eq : ∀ {k : List Key} {b : List Int}, unI k = some b → k = keyI b
  | [], b, h => by cases h; rfl
  | .inl i :: r, b, h => by
    unfold unI at h
    cases e : unI r with
    | none => rw [e] at h; cases h
    | some c => rw [e] at h; cases h; rw [unI_eq e]; rfl
  | .inr _ :: _, b, h => by cases h
theorem unI_key : ∀ b : List Int, unI (keyI b) = some b
  | [] => rfl
  | i :: b => by
    show (unI (keyI b)).map (i :: ·) = _
    rw [unI_key b]
    rfl
def keysI : List (List Key × D) → Option (List (List Int))
  | [] => some []
  | kv :: r => match unI kv.1, keysI r with
    | some b, some bs => if b = [] then none else some (b :: bs)
    | _, _ => none
theorem keysI_eq : ∀ {ks : List (List Key × D)} {bs : List (List Int)}, keysI ks = some bs → ks.map (·.1) = bs.map keyI ∧ ∀ b ∈ bs, b ≠ []
  | [], bs, h => by cases h; exact ⟨rfl, fun _ z => nomatch z⟩
  | kv :: r, bs, h => by
    unfold keysI at h
    split at h
    · rename_i b cs q1 q2
      split at h
      · cases h
      · rename_i ne
        cases h
        obtain ⟨i1, i2⟩ := keysI_eq q2
        refine ⟨by rw [List.map_cons, List.map_cons, i1, unI_eq q1], fun c hc => ?_⟩
        rcases List.mem_cons.1 hc with rfl | hc
        · exact ne
        · exact i2 c hc
    · cases h
theorem keysI_map {α : Type} {f : α → List Key × D} {g : α → List Int} (h : ∀ x, (f x).1 = keyI (g x)) (n : ∀ x, g x ≠ []) : ∀ l : List α, keysI (l.map f) = some (l.map g)
  | [] => rfl
  | x :: l => by
    rw [List.map_cons, keysI, keysI_map h n l, h, unI_key]
    dsimp only
    rw [if_neg (n x)]
    rfl
def sortedD (bs : List (List Int)) : List D := (sortI bs).map fun b => .tup (D.ints b)
theorem atV_ints (b : List Int) : (b.map V.int).all atV = true := by
  rw [List.all_map, List.all_eq_true]
  intro i _
  rfl
theorem reps_keys {K : PySem.W.Frag} {C : Ctx} {o : List Addr} {H H' : Hp} (s0 : Same C.H0 H) (s : Same H H') : ∀ {ys : List V} {bs : List (List Int)}, PySem.W.EachIs (IsKey H) ys bs → Reps K (vis C o H') ys (bs.map fun b => .tup (D.ints b))
  | _, _, .nil => .nil
  | _, _, .cons r t => by
    obtain ⟨T, rfl, e⟩ := r
    exact .cons (.tup (vis_at_tup (s0.trans s) (s _ _ e) (atV_ints _)) (Reps.of_ints _)) (reps_keys s0 s t)
section
variable {X : Cx} {pos p : Pos}
def eSortD (i : Nat) : MX := fun E => match nthS E i with
  | .od ks => (match keysI ks with
    | some bs => .ok (.fr (sortedD bs))
    | none => .bad)
  | _ => .bad
theorem em_sortD (i : Nat) {x : Str} {p2 : Pos} (hu : X.A.units + 65 < cLine) (hm : X.mg "sorted" = none) (hc : X.calm = true := by rfl) (hN : X.N[i]? = some x := by rfl) (hv : Vis X.env.scope x := by first | exact Or.inl rfl | exact Or.inr (Or.inl rfl) | exact Or.inr (Or.inr rfl)) (hg : Gl X "sorted" := by rfl) (hd : (x == ("__debug__" : Str)) = false := by decide) (hcd : (x == ("__classdict__" : Str)) = false := by decide)
    (he : starEach [.Name x p2] X.env = (false, eval (.Name x p2) X.env) :: starEach [] X.env := by exact se_of rfl) : EM X (.Call (.Name "sorted" p) [.Name x p2] [] pos) (eSortD i) := .mk fun C ρ => by
  unfold eSortD
  split
  · rename_i ks q
    split
    · rename_i bs q2
      obtain ⟨l, hr⟩ := nth_od q
      show EF X C ρ _ _
      intro σ H S Q qq
      obtain ⟨h1, xs, h2, h3⟩ := S.od i l ks hr
      obtain ⟨k1, k2⟩ := keysI_eq q2
      have k3 : xs.map (·.1) = ks.map (·.1) := by
        have go : ∀ {xs : List (List Key × V)} {ks : List (List Key × D)}, RepKV X.K (vis C (ows ρ) H) xs ks → xs.map (·.1) = ks.map (·.1) := fun h => by
          induction h with
          | nil => rfl
          | cons r t ih => rw [List.map_cons, List.map_cons, ih, r.1]
        exact go h3
      refine wpE_of (pe_callB (call_sortedT hc hu) hg hm (by decide +kernel) (pa_cons (pe_var hN hv hd hcd) pa_nil he) (by decide) (by decide) he rfl) ⟨_, h1, l, xs, bs, rfl, h2, k3.trans k1, k2, fun z ys nz e => ?_⟩
      exact qq z ys _ nz (same_upd nz) upd_same (reps_keys S.hh (same_upd nz) e)
    · trivial
  · trivial
end
/-! what the sorted keys are -/
theorem sortI_perm (bs : List (List Int)) : (sortI bs).Perm bs := List.mergeSort_perm _ _
theorem sortI_sorted (bs : List (List Int)) : (sortI bs).Pairwise fun p q => p ≤ q := by
  have h := List.pairwise_mergeSort (le := fun p q : List Int => decide (p ≤ q)) (fun a b c h1 h2 => by
    rw [decide_eq_true_eq] at *
    exact List.le_trans h1 h2) (fun a b => by
    rw [Bool.or_eq_true, decide_eq_true_eq, decide_eq_true_eq]
    exact List.le_total a b) bs
  exact h.imp fun h => of_decide_eq_true h
end DL

/-! ### [x, ..] * n -/
namespace DL
open PySem PySem.Spec PyProof.Rows L2
section
variable {X : Cx} {C : Ctx} {ρ : Rho} {a b : Expr} {ds : List D} {ma mb : MX} {pos : Pos}
theorem reps_rep {K : PySem.W.Frag} {H : Hp} {vs : List V} {ds : List D} (r : Reps K H vs ds) : ∀ n : Nat, Reps K H (List.replicate n vs).flatten (List.replicate n ds).flatten
  | 0 => .nil
  | n + 1 => by
    rw [List.replicate_succ, List.replicate_succ, List.flatten_cons, List.flatten_cons]
    exact r.append (reps_rep r n)
theorem ef_rep {k : Int} (ha : EF X C ρ a ds) (hb : EE X C ρ b (.int k)) (h1 : -(2 ^ 63) ≤ k) (h2 : k < 2 ^ 63) (hz : ds.length * k.toNat ≤ sizeLine) : EF X C ρ (.BinOp a .Mult b pos) (List.replicate k.toNat ds).flatten := fun σ H S Q q =>
  wpE_of (pe_op op_rep pe_wp pe_wp) (ha σ H S _ fun l xs H1 n1 s1 l1 r1 => hb σ H1 (S.same s1) _ fun v H2 s2 r2 => by
    cases r2
    refine ⟨l, k, xs, rfl, rfl, s2 _ _ l1, h1, h2, by rw [r1.length]; exact hz, fun z nz => ?_⟩
    have sub : Same (vis C (l :: ows ρ) H1) (vis C (ows ρ) H2) := (vis_sub fun b hb => List.mem_cons_of_mem _ hb).trans (vis_same s2)
    exact q z _ _ ((s1.trans s2).free nz) ((s1.trans s2).trans (same_upd nz)) upd_same (reps_fresh ((S.same s1).same s2) nz (reps_rep (Reps.mono sub _ r1) _)))
def repR : R RV → R D → R RV
  | .ok (.fr ds), .ok (.at (.int k)) => if -(2 ^ 63) ≤ k ∧ k < 2 ^ 63 ∧ ds.length * k.toNat ≤ sizeLine then .ok (.fr (List.replicate k.toNat ds).flatten) else .bad
  | _, _ => .bad
def eRep (ma mb : MX) : MX := fun E => repR (ma E) (toD (mb E))
theorem em_rep (ha : EM X a ma) (hb : EM X b mb) : EM X (.BinOp a .Mult b pos) (eRep ma mb) := .mk fun C ρ => by
  unfold eRep
  have ha' := ha C ρ
  revert ha'
  generalize ma (frOf ρ) = r
  intro ha'
  unfold repR
  split
  · rename_i ds k q
    split
    · rename_i z
      exact ef_rep ha' (hb.ee q) z.1 z.2.1 z.2.2
    · trivial
  · trivial
theorem ev_rep {E : Fr} : eRep ma mb E = repR (ma E) (toD (mb E)) := rfl
theorem repR_one {d : D} {k : Int} (h : 0 ≤ k ∧ k ≤ 100000) : repR (.ok (.fr [d])) (.ok (.int k)) = .ok (.fr (List.replicate k.toNat d)) := by
  have z : -(2 ^ 63) ≤ k ∧ k < 2 ^ 63 ∧ [d].length * k.toNat ≤ sizeLine := by
    rw [List.length_singleton, sizeLine_eq]
    omega
  show (if -(2 ^ 63) ≤ k ∧ k < 2 ^ 63 ∧ [d].length * k.toNat ≤ sizeLine then R.ok (RV.fr (List.replicate k.toNat [d]).flatten) else .bad) = _
  rw [if_pos z]
  have e : ∀ n : Nat, (List.replicate n [d]).flatten = List.replicate n d := fun n => by
    induction n with
    | zero => rfl
    | succ n ih => rw [List.replicate_succ, List.replicate_succ, List.flatten_cons, ih]; rfl
  rw [e]
theorem eSortD_at {E : Fr} {i : Nat} {ks : List (List Key × D)} {bs : List (List Int)} (h : nthS E i = .od ks) (h2 : keysI ks = some bs) : eSortD i E = .ok (.fr (sortedD bs)) := by
  unfold eSortD
  rw [h]
  dsimp only
  rw [h2]
end
end DL

set_option maxHeartbeats 4000000
/-! ### sorted of a list of tuples of ints -/
namespace DL
open PySem PySem.Spec PyProof.Rows L2
section
variable {X : Cx}
theorem call_sortedL (hu : X.A.units + 65 < cLine) : CallR X (.builtin "sorted") (fun xs H Q => ∃ (a : Addr) (zs : List V) (bs : List (List Int)), xs = [.ref a] ∧ SqL X.K H a zs ∧ PySem.W.EachIs (IsKey H) zs bs ∧ (∀ b ∈ bs, b ≠ []) ∧
    ∀ (p : Addr) (ys : List V), H p = none → PySem.W.EachIs (IsKey H) ys (sortI bs) → Q (.ref p) (upd H p (.lst ys))) := by
  intro pins s σ H xs us Q I r q
  obtain ⟨a, zs, bs, ex, sq, hz, hne, q⟩ := q
  subst ex
  obtain ⟨u, eu, rx⟩ := vals1 r
  subst eu
  cases rx
  obtain ⟨vs, rv, pl, hlen⟩ := I.list sq
  have down : ∀ {zs : List V} {vs : List Value} {bs : List (List Int)}, Vals zs vs → PySem.W.EachIs (IsKey H) zs bs → PySem.W.EachIs (fun (v : Value) b => ∃ T, v = .ref T ∧ H T = some (.tup (b.map V.int))) vs bs := by
    intro zs vs bs rv h
    induction h generalizing vs with
    | nil => cases rv; exact .nil
    | cons k t ih =>
      cases rv with
      | cons r1 r2 =>
        obtain ⟨T, rfl, e⟩ := k
        cases (show _ = Value.ref T from r1)
        exact .cons ⟨T, rfl, e⟩ (ih r2)
  have hR := down rv hz
  have hl : vs.length = bs.length := hR.length
  have er : PySem.W.EachIs (fun (v : Value) b => ∃ as, Reads s.heap v (encT b) as) vs bs := hR.mono fun v b ⟨T, e1, e2⟩ => by
    obtain ⟨_, its, g1, g2⟩ : ObjOk X.prog X.w H s.heap T (.tup (b.map V.int)) := I.hok T _ e2
    subst e1
    exact ⟨[], reads_tupI g1 g2⟩
  have alk : PySem.W.AllAlike (bs.map encT) := PySem.W.AllAlike.of fun b b' => alike_tupI b b'
  have srt : PySem.W.Sortable (bs.map encT) := .inl fun d hd => by
    obtain ⟨b, hb, rfl⟩ := List.mem_map.1 hd
    match b, hne b hb with
    | i :: b, _ => exact ⟨_, _, rfl⟩
  have un : ∀ b, b ∈ bs → X.A.units + 2 + (encT b).depth < cLine := fun b _ => by
    have e1 : (encT b).depth ≤ 3 := depth_tupI b
    omega
  have hz2 : bs.length ≤ sizeLine := by
    have e := rv.length
    omega
  refine PySem.W.sorted_data (R := fun (v : Value) b => ∃ T, v = .ref T ∧ H T = some (.tup (b.map V.int))) pl.isList hR er alk srt hz2 un fun out h1 h2 => ?_
  rw [leT] at h2
  have lift : ∀ {out : List Value} {ss : List (List Int)}, PySem.W.EachIs (fun (v : Value) b => ∃ T, v = .ref T ∧ H T = some (.tup (b.map V.int))) out ss → ∃ ys : List V, Vals ys out ∧ PySem.W.EachIs (IsKey H) ys ss := by
    intro out ss h
    induction h with
    | nil => exact ⟨[], .nil, .nil⟩
    | cons r t ih =>
      obtain ⟨T, rfl, e⟩ := r
      obtain ⟨ys, i1, i2⟩ := ih
      exact ⟨V.ref T :: ys, .cons rfl i1, .cons ⟨T, rfl, e⟩ i2⟩
  obtain ⟨ys, y1, y2⟩ := lift h2
  obtain ⟨e', he'⟩ := PyProof.Rows.sortedAll_at s.heap vs (List.toArray out)
  refine ⟨.ref (s.heap.objs.size + 1), upd H (s.heap.objs.size + 1) (.lst ys), I.laid (t' := s.toks) (fun b u e => PyProof.Rows.sortedAll_old e) (Nat.le_succ _)
    (show ObjOk X.prog X.w _ _ _ (.lst ys) from ⟨by rw [y1.length, h1]; exact hz2, out, e', y1, he'⟩), rfl, q _ ys (I.hok.fresh (Nat.le_succ _)) y2⟩
end
def keysL : List D → Option (List (List Int))
  | [] => some []
  | d :: r => match keyD d, keysL r with
    | some b, some bs => if b = [] then none else some (b :: bs)
    | _, _ => none
theorem keysL_ok {K : PySem.W.Frag} {H H' : Hp} (s : Same H H') : ∀ {zs : List V} {ds : List D} {bs : List (List Int)}, Reps K H zs ds → keysL ds = some bs → PySem.W.EachIs (IsKey H') zs bs ∧ ∀ b ∈ bs, b ≠ []
  | _, _, bs, .nil, h => by cases h; exact ⟨.nil, fun _ z => nomatch z⟩
  | _, _, bs, .cons r t, h => by
    unfold keysL at h
    split at h
    · rename_i b cs q1 q2
      split at h
      · cases h
      · rename_i ne
        cases h
        obtain ⟨i1, i2⟩ := keysL_ok s t q2
        obtain ⟨T, e1, e2⟩ := key_rep r q1
        rw [keyI_kV] at e2
        refine ⟨.cons ⟨T, e1, s _ _ e2⟩ i1, fun c hc => ?_⟩
        rcases List.mem_cons.1 hc with rfl | hc
        · exact ne
        · exact i2 c hc
    · cases h
theorem keysL_map (bs : List (List Int)) (h : ∀ b ∈ bs, b ≠ []) : keysL (bs.map fun b => .tup (D.ints b)) = some bs := by
  induction bs with
  | nil => rfl
  | cons b bs ih =>
    rw [List.map_cons, keysL, ih fun c hc => h c (List.mem_cons_of_mem _ hc), show keyD (.tup (D.ints b)) = some b from intsOf_ints b]
    dsimp only
    rw [if_neg (h b List.mem_cons_self)]
section
variable {X : Cx} {C : Ctx} {ρ : Rho} {e : Expr} {m : MX} {pos p : Pos} {ds : List D}
theorem ef_sortL {bs : List (List Int)} (hu : X.A.units + 65 < cLine) (hm : X.mg "sorted" = none) (ha : EL X C ρ e ds) (hk : keysL ds = some bs) (hg : Gl X "sorted" := by rfl) (he : starEach [e] X.env = (false, eval e X.env) :: starEach [] X.env := by exact se_of rfl) : EF X C ρ (.Call (.Name "sorted" p) [e] [] pos) (sortedD bs) := fun σ H S Q q =>
  wpE_of (pe_callB (call_sortedL hu) hg hm (by decide +kernel) (pa_cons pe_wp pa_nil he) (by decide) (by decide) he rfl) (ha σ H S _ fun a xs H1 s1 l r1 => by
    have S1 := S.same s1
    obtain ⟨k1, k2⟩ := keysL_ok S1.visIn r1 hk
    refine ⟨a, xs, bs, rfl, l, k1, k2, fun z ys nz e => ?_⟩
    exact q z ys _ (s1.free nz) (s1.trans (same_upd nz)) upd_same (reps_keys S1.hh (same_upd nz) e))
def sortR (ds : List D) : R RV := match keysL ds with
  | some bs => .ok (.fr (sortedD bs))
  | none => .bad
def eSortL (m : MX) : MX := fun E => match m E with
  | .ok (.im (.lst ds)) => sortR ds
  | .ok (.fr ds) => sortR ds
  | .ok (.ro ds) => sortR ds
  | _ => .bad
theorem em_sortL (hu : X.A.units + 65 < cLine) (hm : X.mg "sorted" = none) (ha : EM X e m) (hg : Gl X "sorted" := by rfl) (he : starEach [e] X.env = (false, eval e X.env) :: starEach [] X.env := by exact se_of rfl) : EM X (.Call (.Name "sorted" p) [e] [] pos) (eSortL m) := .mk fun C ρ => by
  unfold eSortL
  have ha' := ha C ρ
  revert ha'
  generalize m (frOf ρ) = r
  intro ha'
  split
  · rename_i ds
    unfold sortR
    split
    · rename_i bs q; exact ef_sortL hu hm (EE.el ha') q hg he
    · trivial
  · rename_i ds
    unfold sortR
    split
    · rename_i bs q; exact ef_sortL hu hm (EF.el ha') q hg he
    · trivial
  · rename_i ds
    unfold sortR
    split
    · rename_i bs q; exact ef_sortL hu hm ha' q hg he
    · trivial
  · trivial
theorem ev_sortL {E : Fr} : eSortL m E = (match m E with
  | .ok (.im (.lst ds)) => sortR ds
  | .ok (.fr ds) => sortR ds
  | .ok (.ro ds) => sortR ds
  | _ => .bad) := rfl
theorem eSortL_ro {E : Fr} {bs : List (List Int)} (h : m E = .ok (.ro ds)) (k : keysL ds = some bs) : eSortL m E = .ok (.fr (sortedD bs)) := by
  unfold eSortL
  rw [h]
  show sortR ds = _
  unfold sortR
  rw [k]
end
/-- the same things in another order are sorted alike -/
theorem sortI_congr {l m : List (List Int)} (h : l.Perm m) : sortI l = sortI m := by
  have p : (sortI l).Perm (sortI m) := (sortI_perm l).trans (h.trans (sortI_perm m).symm)
  exact p.eq_of_pairwise (fun a b _ _ h1 h2 => List.le_antisymm h1 h2) (sortI_sorted l) (sortI_sorted m)
end DL

set_option maxHeartbeats 4000000
/-! ### min, max of a list of pairs of ints -/
namespace DL
open PySem PySem.Spec PyProof.Rows L2
def pl (p : Int × Int) : List Int := [p.1, p.2]
theorem pl_inj {p q : Int × Int} (h : pl p = pl q) : p = q := by
  unfold pl at h
  simp at h
  exact Prod.ext h.1 h.2
theorem reads_pl {h : Heap} {a : Addr} {its : List Value} {b : List Int} {m : Int × Int} {as : List Addr} (r : Vals (b.map V.int) its) (p : IsTup h a its.toArray) (k : Reads h (.ref a) (.tuple [.int m.1, .int m.2]) as) : b = pl m := by
  obtain ⟨o, g3, g4, n, g5⟩ := p
  cases k with
  | tuple k1 k2 k3 k4 =>
    rw [g3] at k1
    cases k1
    rw [g5] at k3
    cases k3
    have k5 : ReadsAll h its [.int m.1, .int m.2] as := by simpa using k4
    cases k5 with
    | cons a1 a2 =>
      cases a2 with
      | cons a3 a4 =>
        cases a4
        cases a1
        cases a3
        match b, r with
        | [x, y], .cons r1 (.cons r2 .nil) =>
          obtain ⟨t1, e1⟩ := r1
          obtain ⟨t2, e2⟩ := r2
          cases e1
          cases e2
          rfl
section
variable {X : Cx}
theorem holds_pl {H : Hp} {pins : List (Addr × Obj)} {σ : L2.St} {s : Shared} (I : L2.Inv X pins σ H s) : ∀ {zs : List V} {vs : List Value} {bs : List (Int × Int)}, Vals zs vs → PySem.W.EachIs (IsKey H) zs (bs.map pl) → ReadsAll s.heap vs (bs.map (PySem.W.Datum.toD : Int × Int → PyData)) [] ∧ ∀ (i : Nat) v, vs[i]? = some v → ∃ (T : Addr) (b : List Int), zs[i]? = some (V.ref T) ∧ v = .ref T ∧ H T = some (.tup (b.map V.int))
  | _, _, [], .nil, .nil => ⟨.nil, fun i v h => by simp at h⟩
  | _, _, b :: bs, .cons r1 r2, .cons k t => by
    obtain ⟨T, rfl, e⟩ := k
    cases (show _ = Value.ref T from r1)
    obtain ⟨i1, i2⟩ := holds_pl I r2 t
    obtain ⟨_, its, g1, g2⟩ : ObjOk X.prog X.w H s.heap T (.tup ((pl b).map V.int)) := I.hok T _ e
    refine ⟨ReadsAll.cons (as := []) (reads_tupI g1 g2) i1, fun i v h => ?_⟩
    cases i with
    | zero => cases h; exact ⟨T, _, rfl, rfl, e⟩
    | succ i => obtain ⟨T', b', h1, h2, h3⟩ := i2 i v (by simpa using h); exact ⟨T', b', by simpa using h1, h2, h3⟩
theorem call_minP (hc : X.calm = true) (hu : X.A.units + 65 < cLine) : CallR X (.builtin "min") (fun xs H Q => ∃ (a : Addr) (zs : List V) (x : Int × Int) (bs : List (Int × Int)), xs = [.ref a] ∧ SqL X.K H a zs ∧ PySem.W.EachIs (IsKey H) zs ((x :: bs).map pl) ∧
    ∀ v, IsKey H v (pl (PySem.W.minOf x bs)) → Q v H) := by
  intro pins s σ H xs us Q I r q
  obtain ⟨a, zs, x, bs, ex, sq, hz, q⟩ := q
  subst ex
  obtain ⟨u, eu, rx⟩ := vals1 r
  subst eu
  cases rx
  obtain ⟨vs, rv, pl', hlen⟩ := I.list sq
  obtain ⟨h1, h2⟩ := holds_pl I rv hz
  refine PySem.W.min_list_datum (α := Int × Int) (x := x) (xs := bs) (I.ok.hd hc) pl'.isList ⟨[], by simpa using h1⟩ (by show X.A.units + 1 + (max 0 0 + 1) < cLine; omega) fun i v h' tk hv hm hk => ?_
  obtain ⟨T, b, z1, rfl, e⟩ := h2 i v (by simpa using hv)
  have I1 : L2.Inv X pins σ H { s with heap := h', toks := tk } := I.kept hk
  obtain ⟨as, ra⟩ := hm
  obtain ⟨_, its, g1, g2⟩ : ObjOk X.prog X.w H h' T (.tup (b.map V.int)) := I1.hok T _ e
  have eb := reads_pl g1 g2 ra
  subst eb
  exact ⟨.ref T, H, I1, rfl, q _ ⟨T, rfl, e⟩⟩
theorem call_maxP (hc : X.calm = true) (hu : X.A.units + 65 < cLine) : CallR X (.builtin "max") (fun xs H Q => ∃ (a : Addr) (zs : List V) (x : Int × Int) (bs : List (Int × Int)), xs = [.ref a] ∧ SqL X.K H a zs ∧ PySem.W.EachIs (IsKey H) zs ((x :: bs).map pl) ∧
    ∀ v, IsKey H v (pl (PySem.W.maxOf x bs)) → Q v H) := by
  intro pins s σ H xs us Q I r q
  obtain ⟨a, zs, x, bs, ex, sq, hz, q⟩ := q
  subst ex
  obtain ⟨u, eu, rx⟩ := vals1 r
  subst eu
  cases rx
  obtain ⟨vs, rv, pl', hlen⟩ := I.list sq
  obtain ⟨h1, h2⟩ := holds_pl I rv hz
  refine PySem.W.max_list_datum (α := Int × Int) (x := x) (xs := bs) (I.ok.hd hc) pl'.isList ⟨[], by simpa using h1⟩ (by show X.A.units + 1 + (max 0 0 + 1) < cLine; omega) fun i v h' tk hv hm hk => ?_
  obtain ⟨T, b, z1, rfl, e⟩ := h2 i v (by simpa using hv)
  have I1 : L2.Inv X pins σ H { s with heap := h', toks := tk } := I.kept hk
  obtain ⟨as, ra⟩ := hm
  obtain ⟨_, its, g1, g2⟩ : ObjOk X.prog X.w H h' T (.tup (b.map V.int)) := I1.hok T _ e
  have eb := reads_pl g1 g2 ra
  subst eb
  exact ⟨.ref T, H, I1, rfl, q _ ⟨T, rfl, e⟩⟩
end
def pairD : D → Option (Int × Int)
  | .tup [.at (.int x), .at (.int y)] => some (x, y)
  | _ => none
def pairsD : List D → Option (List (Int × Int))
  | [] => some []
  | d :: r => match pairD d, pairsD r with
    | some p, some ps => some (p :: ps)
    | _, _ => none
theorem pairD_key {d : D} {p : Int × Int} (h : pairD d = some p) : keyD d = some (pl p) := by
  unfold pairD at h
  split at h
  · cases h; rfl
  · cases h
theorem pairsD_key : ∀ {ds : List D} {ps : List (Int × Int)}, pairsD ds = some ps → keysL ds = some (ps.map pl)
  | [], ps, h => by cases h; rfl
  | d :: r, ps, h => by
    unfold pairsD at h
    split at h
    · rename_i p qs q1 q2
      cases h
      rw [keysL, pairD_key q1, pairsD_key q2]
      rfl
    · cases h
section
variable {X : Cx} {C : Ctx} {ρ : Rho} {e : Expr} {m : MX} {pos p : Pos} {ds : List D}
def mmR (f : Int × Int → List (Int × Int) → Int × Int) (ds : List D) : R RV := match pairsD ds with
  | some (x :: ps) => .ok (.im (.tup (D.ints (pl (f x ps)))))
  | _ => .bad
def eMinP (m : MX) : MX := fun E => mapL (mmR PySem.W.minOf) (toL (m E))
def eMaxP (m : MX) : MX := fun E => mapL (mmR PySem.W.maxOf) (toL (m E))
theorem ee_minP {x : Int × Int} {ps : List (Int × Int)} (hu : X.A.units + 65 < cLine) (hm : X.mg "min" = none) (ha : EL X C ρ e ds) (hk : pairsD ds = some (x :: ps)) (hc : X.calm = true := by rfl) (hg : Gl X "min" := by rfl) (he : starEach [e] X.env = (false, eval e X.env) :: starEach [] X.env := by exact se_of rfl) : EE X C ρ (.Call (.Name "min" p) [e] [] pos) (.tup (D.ints (pl (PySem.W.minOf x ps)))) := fun σ H S Q q =>
  wpE_of (pe_callB (call_minP hc hu) hg hm (by decide +kernel) (pa_cons pe_wp pa_nil he) (by decide) (by decide) he rfl) (ha σ H S _ fun a xs H1 s1 l r1 => by
    have S1 := S.same s1
    obtain ⟨k1, _⟩ := keysL_ok S1.visIn r1 (pairsD_key hk)
    refine ⟨a, xs, x, ps, rfl, l, k1, fun v ⟨T, e1, e2⟩ => ?_⟩
    subst e1
    exact q _ H1 s1 (.tup (vis_at_tup S1.hh e2 (atV_ints _)) (Reps.of_ints _)))
theorem ee_maxP {x : Int × Int} {ps : List (Int × Int)} (hu : X.A.units + 65 < cLine) (hm : X.mg "max" = none) (ha : EL X C ρ e ds) (hk : pairsD ds = some (x :: ps)) (hc : X.calm = true := by rfl) (hg : Gl X "max" := by rfl) (he : starEach [e] X.env = (false, eval e X.env) :: starEach [] X.env := by exact se_of rfl) : EE X C ρ (.Call (.Name "max" p) [e] [] pos) (.tup (D.ints (pl (PySem.W.maxOf x ps)))) := fun σ H S Q q =>
  wpE_of (pe_callB (call_maxP hc hu) hg hm (by decide +kernel) (pa_cons pe_wp pa_nil he) (by decide) (by decide) he rfl) (ha σ H S _ fun a xs H1 s1 l r1 => by
    have S1 := S.same s1
    obtain ⟨k1, _⟩ := keysL_ok S1.visIn r1 (pairsD_key hk)
    refine ⟨a, xs, x, ps, rfl, l, k1, fun v ⟨T, e1, e2⟩ => ?_⟩
    subst e1
    exact q _ H1 s1 (.tup (vis_at_tup S1.hh e2 (atV_ints _)) (Reps.of_ints _)))
theorem em_minP (hu : X.A.units + 65 < cLine) (hm : X.mg "min" = none) (ha : EM X e m) (hc : X.calm = true := by rfl) (hg : Gl X "min" := by rfl) (he : starEach [e] X.env = (false, eval e X.env) :: starEach [] X.env := by exact se_of rfl) : EM X (.Call (.Name "min" p) [e] [] pos) (eMinP m) :=
  em_onL ha fun C ρ ds h => by
    unfold mmR
    split
    · rename_i x ps q; exact ee_minP hu hm h q hc hg he
    · trivial
theorem em_maxP (hu : X.A.units + 65 < cLine) (hm : X.mg "max" = none) (ha : EM X e m) (hc : X.calm = true := by rfl) (hg : Gl X "max" := by rfl) (he : starEach [e] X.env = (false, eval e X.env) :: starEach [] X.env := by exact se_of rfl) : EM X (.Call (.Name "max" p) [e] [] pos) (eMaxP m) :=
  em_onL ha fun C ρ ds h => by
    unfold mmR
    split
    · rename_i x ps q; exact ee_maxP hu hm h q hc hg he
    · trivial
end
end DL

/-! ### lists within data: when no two are one -/
namespace DL
open PySem PySem.Spec PyProof.Rows L2
/-- no lists among the module's objects -/
def noList (p : Addr × Obj) : Bool := match p.2.cls with
  | .type n => !(n == "list")
  | _ => true
def NoLists (K : PySem.W.Frag) : Prop := ∀ a o, K.lookup a = some o → o.cls ≠ .type "list"
theorem noLists_of : ∀ {K : PySem.W.Frag}, K.all noList = true → NoLists K
  | [], _, a, o, e => by cases e
  | p :: K, h, a, o, e => by
    rw [List.all_cons, Bool.and_eq_true] at h
    rw [List.lookup_cons] at e
    split at e
    · cases e
      intro z
      have h1 := h.1
      unfold noList at h1
      rw [z] at h1
      exact absurd h1 (by decide)
    · exact noLists_of h.2 a o e
theorem sq_rd {K : PySem.W.Frag} {H : Hp} {a : Addr} {xs : List V} (n : NoLists K) (h : SqL K H a xs) : Rd H a (.lst xs) := by
  rcases h with h | ⟨o, its, k, l, c, _⟩
  · exact h
  · exact absurd c (n a o l)
theorem rd_uniq {H : Hp} {a : Addr} {xs ys : List V} (h : Rd H a (.lst xs)) (k : Rd H a (.lst ys)) : xs = ys := by
  rcases h with h | ⟨o, h⟩ <;> rcases k with k | ⟨u, k⟩ <;> rw [h] at k <;> cases k <;> rfl
mutual
/-- no references left in the data -/
def D.nr : D → Bool
  | .at v => atV v
  | .tup l => D.nrs l
  | .lst l => D.nrs l
  | .exc _ => false
  | .obj _ _ _ => false
  | .dct => false
  | .any => false
def D.nrs : List D → Bool
  | [] => true
  | d :: ds => D.nr d && D.nrs ds
end
mutual
/-- the lists in the data -/
def D.subs : D → List D
  | .at _ => []
  | .tup l => D.subss l
  | .lst l => .lst l :: D.subss l
  | .exc _ => []
  | .obj _ _ l => D.subss l
  | .dct => []
  | .any => []
def D.subss : List D → List D
  | [] => []
  | d :: ds => D.subs d ++ D.subss ds
end
section
variable {K : PySem.W.Frag} {H : Hp}
mutual
theorem Rep.det (n : NoLists K) : ∀ (d e : D) {v : V}, d.nr = true → e.nr = true → Rep K H v d → Rep K H v e → d = e
  | .at w, e, v, h1, h2, r1, r2 => by
    cases r1
    cases r2 with
    | «at» => rfl
    | tup s r => simp [D.nr, atV] at h1
    | lst s r => simp [D.nr, atV] at h1
    | exc c s => simp [D.nr, atV] at h1
    | obj _ _ _ _ => simp [D.nr, atV] at h1
    | dct _ => simp [D.nr, atV] at h1
    | any => simp [D.nr, atV] at h1
  | .tup ds, e, v, h1, h2, r1, r2 => by
    cases r1 with
    | tup s r =>
      cases r2 with
      | «at» => simp [D.nr, atV] at h2
      | tup s' r' =>
        rw [s] at s'
        cases s'
        rw [Reps.det n ds _ h1 h2 r r']
      | lst s' r' =>
        rcases sq_rd n s' with z | ⟨o, z⟩ <;> rw [s] at z <;> cases z
      | exc c s' => simp [D.nr] at h2
      | obj _ _ _ _ => simp [D.nr] at h2
      | dct _ => simp [D.nr] at h2
      | any => simp [D.nr] at h2
  | .lst ds, e, v, h1, h2, r1, r2 => by
    cases r1 with
    | lst s r =>
      cases r2 with
      | «at» => simp [D.nr, atV] at h2
      | tup s' r' =>
        rcases sq_rd n s with z | ⟨o, z⟩ <;> rw [s'] at z <;> cases z
      | lst s' r' =>
        have e := rd_uniq (sq_rd n s) (sq_rd n s')
        subst e
        rw [Reps.det n ds _ h1 h2 r r']
      | exc c s' => simp [D.nr] at h2
      | obj _ _ _ _ => simp [D.nr] at h2
      | dct _ => simp [D.nr] at h2
      | any => simp [D.nr] at h2
  | .exc x, e, v, h1, h2, r1, r2 => by simp [D.nr] at h1
  | .obj _ _ _, e, v, h1, h2, r1, r2 => by simp [D.nr] at h1
  | .dct, e, v, h1, h2, r1, r2 => by simp [D.nr] at h1
  | .any, e, v, h1, h2, r1, r2 => by simp [D.nr] at h1
theorem Reps.det (n : NoLists K) : ∀ (ds es : List D) {vs : List V}, D.nrs ds = true → D.nrs es = true → Reps K H vs ds → Reps K H vs es → ds = es
  | [], es, _, _, _, r1, r2 => by cases r1; cases r2; rfl
  | d :: ds, es, _, h1, h2, r1, r2 => by
    cases r1 with
    | cons r s =>
      cases r2 with
      | cons r' s' =>
        have g1 := (Bool.and_eq_true _ _).mp h1
        have g2 := (Bool.and_eq_true _ _).mp h2
        rw [Rep.det n d _ g1.1 g2.1 r r', Reps.det n ds _ g1.2 g2.2 s s']
end
end
section
variable {K : PySem.W.Frag} {W H : Hp}
theorem paired_append {α β : Type} {F : α → β → Prop} : ∀ {l1 : List α} {m1 : List β} {l2 : List α} {m2 : List β}, Paired F l1 m1 → Paired F l2 m2 → Paired F (l1 ++ l2) (m1 ++ m2)
  | _, _, _, _, .nil, q => q
  | _, _, _, _, .cons r t, q => .cons r (paired_append t q)
theorem paired_mem {α β : Type} {F : α → β → Prop} {a : α} : ∀ {l : List α} {m : List β}, Paired F l m → a ∈ l → ∃ b ∈ m, F a b
  | _, _, .cons (a := x) (b := y) r t, h => (List.mem_cons.mp h).elim (fun z => ⟨y, List.mem_cons_self, by rw [z]; exact r⟩) fun z => by
    obtain ⟨b, hb, f⟩ := paired_mem t z
    exact ⟨b, List.mem_cons_of_mem _ hb, f⟩
theorem paired_nodup {α β : Type} {F : α → β → Prop} (det : ∀ a b c, F a b → F a c → b = c) : ∀ {l : List α} {m : List β}, Paired F l m → m.Nodup → l.Nodup
  | _, _, .nil, _ => List.nodup_nil
  | _, _, .cons r t, h => by
    rw [List.nodup_cons] at h ⊢
    refine ⟨fun z => ?_, paired_nodup det t h.2⟩
    obtain ⟨b, hb, f⟩ := paired_mem t z
    exact h.1 (by rw [det _ _ _ r f]; exact hb)
theorem noL_subs : (∀ d : D, d.noL = true → d.subs = []) := by
  intro d
  exact D.rec (motive_1 := fun d => d.noL = true → d.subs = []) (motive_2 := fun ds => D.noLs ds = true → D.subss ds = [])
    (fun v _ => rfl) (fun l ih h => ih h) (fun l ih h => by cases h) (fun _ _ => rfl) (fun _ _ _ _ h => by cases h) (fun _ => rfl) (fun _ => rfl)
    (fun _ => rfl) (fun d ds i1 i2 h => by
      have g := (Bool.and_eq_true _ _).mp h
      show d.subs ++ D.subss ds = []
      rw [i1 g.1, i2 g.2]; rfl) d
mutual
theorem RepT.al (sW : Same W H) : ∀ (d : D) {v : V} {as : List Addr}, RepT K W H v d as → d.nr = true → Paired (fun a x => Rep K H (.ref a) x ∧ x.nr = true) as d.subs
  | d, _, _, .leaf r n, h => by rw [noL_subs d n]; exact .nil
  | .lst ds, _, _, .lst s r, h => .cons ⟨.lst (.inl (.inl s)) (RepTs.rep sW ds (fun _ _ => rfl) r), h⟩ (RepTs.al sW ds r h)
  | .tup ds, _, _, .tup s r, h => RepTs.al sW ds r h
theorem RepTs.al (sW : Same W H) : ∀ (ds : List D) {vs : List V} {as : List Addr}, RepTs K W H vs ds as → D.nrs ds = true → Paired (fun a x => Rep K H (.ref a) x ∧ x.nr = true) as (D.subss ds)
  | [], _, _, .nil, h => .nil
  | d :: ds, _, _, .cons r t, h => paired_append (RepT.al sW d r ((Bool.and_eq_true _ _).mp h).1) (RepTs.al sW ds t ((Bool.and_eq_true _ _).mp h).2)
end
/-- no two lists in the data are alike -/
def TreeP (d : D) : Prop := d.nr = true ∧ d.subs.Nodup
theorem RepT.nodupT (nl : NoLists K) (sW : Same W H) {d : D} {v : V} {as : List Addr} (r : RepT K W H v d as) (t : TreeP d) : as.Nodup :=
  paired_nodup (F := fun a x => Rep K H (.ref a) x ∧ x.nr = true) (fun _ _ _ h1 h2 => Rep.det nl _ _ h1.2 h2.2 h1.1 h2.1) (RepT.al sW d r t.1) t.2
/-- lists that are told apart: no two alike, or a list of lists -/
def KidP (d : D) : Prop := TreeP d ∨ ∃ ds, d = .lst ds ∧ D.allFl ds = true
theorem RepT.nodup (nl : NoLists K) (sW : Same W H) {d : D} {v : V} {as : List Addr} (r : RepT K W H v d as) (t : KidP d) : as.Nodup := by
  rcases t with t | ⟨ds, rfl, f⟩
  · exact RepT.nodupT nl sW r t
  · cases r with
    | leaf _ z => cases z
    | lst s r =>
      rename_i na nd
      exact List.nodup_cons.mpr ⟨na, nd f⟩
/-- no list of lists in the data but empty ones -/
def NoF (d : D) : Prop := d.nr = true ∧ ∀ l, D.lst l ∈ d.subs → D.allFl l = true → l = []
theorem subs_size : ∀ d : D, ∀ x ∈ d.subs, sizeOf x ≤ sizeOf d := by
  intro d
  exact D.rec (motive_1 := fun d => ∀ x ∈ d.subs, sizeOf x ≤ sizeOf d) (motive_2 := fun ds => ∀ x ∈ D.subss ds, sizeOf x ≤ sizeOf ds)
    (fun v x h => by cases h) (fun l ih x h => by have := ih x h; simp; omega)
    (fun l ih x h => by
      rcases List.mem_cons.mp h with z | z
      · rw [z]; exact Nat.le_refl _
      · have := ih x z; simp; omega)
    (fun _ x h => by cases h) (fun _ _ l ih x h => by have := ih x h; simp; omega) (fun x h => by cases h) (fun x h => by cases h)
    (fun x h => by cases h) (fun d ds i1 i2 x h => by
      rcases List.mem_append.mp h with z | z
      · have := i1 x z; simp; omega
      · have := i2 x z; simp; omega) d
theorem subss_size : ∀ (ds : List D), ∀ x ∈ D.subss ds, sizeOf x ≤ sizeOf ds
  | [], x, h => by cases h
  | d :: ds, x, h => by
    rcases List.mem_append.mp h with z | z
    · have := subs_size d x z; simp; omega
    · have := subss_size ds x z; simp; omega
theorem lst_not_sub (l : List D) : D.lst l ∉ D.subss l := fun h => by
  have := subss_size l _ h
  simp at this
  omega
end
end DL

set_option maxHeartbeats 4000000
/-! ### trees of lists of one's own -/
namespace DL
open PySem PySem.Spec PyProof.Rows L2
section
variable {K : PySem.W.Frag} {W W' H H' : Hp}
theorem noLs_cons {d : D} {ds : List D} (h : D.noLs (d :: ds) = true) : d.noL = true ∧ D.noLs ds = true := (Bool.and_eq_true _ _).mp h
theorem RepTs.leaves : ∀ {ds : List D} {vs : List V}, D.noLs ds = true → Reps K W vs ds → RepTs K W H vs ds []
  | [], _, _, .nil => .nil
  | d :: ds, _, n, .cons r t => RepTs.cons (as := []) (bs := []) (.leaf r (noLs_cons n).1) (RepTs.leaves (noLs_cons n).2 t)
mutual
theorem RepT.flat : ∀ (d : D) {v : V} {as : List Addr}, d.noL = true → RepT K W H v d as → as = [] ∧ Rep K W v d
  | d, _, _, n, .leaf r _ => ⟨rfl, r⟩
  | .tup ds, _, _, n, .tup s r => ⟨(RepTs.flat ds n r).1, .tup s (RepTs.flat ds n r).2⟩
theorem RepTs.flat : ∀ (ds : List D) {vs : List V} {as : List Addr}, D.noLs ds = true → RepTs K W H vs ds as → as = [] ∧ Reps K W vs ds
  | [], _, _, _, .nil => ⟨rfl, .nil⟩
  | d :: ds, _, _, n, .cons r t => by
    obtain ⟨a1, a2⟩ := RepT.flat d (noLs_cons n).1 r
    obtain ⟨b1, b2⟩ := RepTs.flat ds (noLs_cons n).2 t
    subst a1 b1
    exact ⟨rfl, .cons a2 b2⟩
end
theorem RepTs.length : ∀ {vs : List V} {ds : List D} {as : List Addr}, RepTs K W H vs ds as → vs.length = ds.length
  | _, _, _, .nil => rfl
  | _, _, _, .cons _ t => congrArg (· + 1) (RepTs.length t)
/-- what a change of a list within a tree comes to, at any later time -/
structure KidAt (K : PySem.W.Frag) (W H : Hp) (as : List Addr) (es : List D) (b : Addr) (ys : List V) (R : List D → Hp → Hp → Prop) : Prop where
  mem : b ∈ as
  at_ : H b = some (.lst ys)
  rep : Reps K W ys es
  upd_ : ∀ (W2 H2 : Hp), Same W W2 → (∀ a ∈ as, H2 a = H a) → ∀ (ys' : List V) (es' : List D), D.noLs es' = true → Reps K W2 ys' es' → R es' W2 (upd H2 b (.lst ys'))
theorem RepTs.kid {es : List D} (n : D.noLs es = true) : ∀ (ds : List D) (k : Nat) {xs : List V} {as : List Addr}, RepTs K W H xs ds as → as.Nodup → ds[k]? = some (.lst es) →
    ∃ b ys, xs[k]? = some (.ref b) ∧ KidAt K W H as es b ys (fun es' W2 H2 => RepTs K W2 H2 xs (ds.set k (.lst es')) as)
  | [], k, _, _, _, _, h => by simp at h
  | d :: ds, 0, _, _, .cons (as := as1) (bs := bs) r t, nd, h => by
    have e : d = .lst es := by simpa using h
    subst e
    cases r with
    | leaf _ z => cases z
    | @lst b ys _ cs nb nd' s r' =>
      obtain ⟨e1, r2⟩ := RepTs.flat es n r'
      subst e1
      refine ⟨b, ys, rfl, ⟨List.mem_cons_self, s, r2, fun W2 H2 sm f ys' es' n' r3 => ?_⟩⟩
      refine RepTs.cons (as := [b]) (.lst (na := List.not_mem_nil) (nd := fun _ => List.nodup_nil) upd_same (RepTs.leaves n' r3)) (RepTs.mono sm ds (fun a ha => ?_) t)
      have na : a ≠ b := fun z => by
        subst z
        exact (List.nodup_append.mp nd).2.2 a (List.mem_singleton_self a) a ha rfl
      rw [upd_ne na, f a (List.mem_append_right _ ha)]
  | d :: ds, k + 1, _, _, .cons (as := as1) (bs := bs) r t, nd, h => by
    obtain ⟨m1, m2, m3⟩ := List.nodup_append.mp nd
    obtain ⟨b, ys, h1, h2⟩ := RepTs.kid n ds k t m2 (by simpa using h)
    refine ⟨b, ys, by simpa using h1, ⟨List.mem_append_right _ h2.mem, h2.at_, h2.rep, fun W2 H2 sm f ys' es' n' r3 => ?_⟩⟩
    refine RepTs.cons (RepT.mono sm d (fun a ha => ?_) r) (h2.upd_ W2 H2 sm (fun a ha => f a (List.mem_append_right _ ha)) ys' es' n' r3)
    have na : a ≠ b := fun z => by
      subst z
      exact m3 a ha a h2.mem rfl
    rw [upd_ne na, f a (List.mem_append_left _ ha)]
def D.setAt : D → Nat → D → D
  | .lst ds, k, x => .lst (ds.set k x)
  | .tup ds, k, x => .tup (ds.set k x)
  | d, _, _ => d
def D.kids : D → Option (List D)
  | .lst ds => some ds
  | .tup ds => some ds
  | _ => none
/-- the list at k within a tree: where it is found, and what its change comes to -/
theorem RepT.kid {d : D} {ds es : List D} {k : Nat} {v : V} {as : List Addr} (n : D.noLs es = true) (hd : d.kids = some ds) (h : ds[k]? = some (.lst es)) (r : RepT K W H v d as) (nd : as.Nodup) :
    ∃ p xs b ys, v = .ref p ∧ (H p = some (.lst xs) ∨ W p = some (.tup xs)) ∧ xs.length = ds.length ∧ xs[k]? = some (.ref b) ∧ KidAt K W H as es b ys (fun es' W2 H2 => RepT K W2 H2 v (d.setAt k (.lst es')) as) := by
  cases d with
  | lst es0 =>
    cases hd
    cases r with
    | leaf _ z => cases z
    | @lst p xs _ cs np0 nd' s r' =>
      obtain ⟨m1, m2⟩ := List.nodup_cons.mp nd
      obtain ⟨b, ys, h1, h2⟩ := RepTs.kid n ds k r' m2 h
      refine ⟨p, xs, b, ys, rfl, .inl s, RepTs.length r', h1, ⟨List.mem_cons_of_mem _ h2.mem, h2.at_, h2.rep, fun W2 H2 sm f ys' es' n' r3 => ?_⟩⟩
      refine RepT.lst (na := m1) (nd := fun _ => m2) ?_ (h2.upd_ W2 H2 sm (fun a ha => f a (List.mem_cons_of_mem _ ha)) ys' es' n' r3)
      have np : p ≠ b := fun z => m1 (z ▸ h2.mem)
      rw [upd_ne np, f p List.mem_cons_self]
      exact s
  | tup es0 =>
    cases hd
    cases r with
    | leaf r0 z =>
      have go : ∀ (l : List D) (k : Nat), D.noLs l = true → l[k]? = some (.lst es) → False := by
        intro l
        induction l with
        | nil => intro k _ h; simp at h
        | cons x l ih =>
          intro k z h
          cases k with
          | zero =>
            have e : x = .lst es := by simpa using h
            subst e
            exact absurd (noLs_cons z).1 (by intro y; cases y)
          | succ k => exact ih k (noLs_cons z).2 (by simpa using h)
      exact (go ds k z h).elim
    | tup s r' =>
      rename_i p xs
      obtain ⟨b, ys, h1, h2⟩ := RepTs.kid n ds k r' nd h
      exact ⟨p, xs, b, ys, rfl, .inr s, RepTs.length r', h1, ⟨h2.mem, h2.at_, h2.rep, fun W2 H2 sm f ys' es' n' r3 => RepT.tup (sm _ _ s) (h2.upd_ W2 H2 sm f ys' es' n' r3)⟩⟩
  | _ => cases hd
end

section
variable {X : Cx} {C : Ctx} {ρ ρ' : Rho} {e b : Expr} {es : List Expr} {m mk mj : MX} {pos p : Pos} {P : Post}
/-! ### a change within a tree -/
theorem Same.ot {K : PySem.W.Frag} {H H1 : Hp} {σ : L2.St} (S : SRel K C H σ ρ) {i : Nat} {as : List Addr} {d : D} (h : ρ[i]? = some (.ot as d)) (s : Same H H1) : ∀ a ∈ as, H1 a = H a := fun a ha => by
  obtain ⟨v, _, r⟩ := S.ot i as d h
  obtain ⟨xs, q⟩ := RepT.isl _ r a ha
  rw [q]
  exact s _ _ q
/-- the list at k of slot i's tree, told when it is read (H1) and changed later (H2) -/
theorem kid_run (nl : NoLists X.K) {i : Nat} {x : Str} {p1 p2 : Pos} {as : List Addr} {d : D} {ds es : List D} {k : Int} {n : Nat} (hr : ρ[i]? = some (.ot as d)) (ht : KidP d) (hd : d.kids = some ds) (hk : ixN ds.length k = some n) (he : ds[n]? = some (.lst es)) (hn : D.noLs es = true) (hb : EE X C ρ b (.int k)) (hN : X.N[i]? = some x)
    (hv : Vis X.env.scope x) (hp : PlainIx b) (hdb : (x == ("__debug__" : Str)) = false) (hcd : (x == ("__classdict__" : Str)) = false) {σ : L2.St} {H : Hp} (S : SRel X.K C H σ ρ) {Q : VK}
    (q : ∀ c H1, Same H H1 → (∃ ys, H1 c = some (.lst ys) ∧ Reps X.K (vis C (ows ρ) H1) ys es ∧ ∀ H2, Same H1 H2 → ∀ (ys' : List V) (es' : List D), D.noLs es' = true → Reps X.K (vis C (ows ρ) H2) ys' es' → SRel X.K C (upd H2 c (.lst ys')) σ (ρ.set i (.ot as (d.setAt n (.lst es')))) ∧ Same (vis C (ows ρ) H2) (vis C (ows (ρ.set i (.ot as (d.setAt n (.lst es'))))) (upd H2 c (.lst ys')))) → Q (.ref c) H1) :
    wpE X (.Subscript (.Name x p1) b p2) σ H Q := by
  obtain ⟨v, h1, h2⟩ := S.ot i as d hr
  have nd : as.Nodup := RepT.nodup nl S.visIn h2 ht
  obtain ⟨pp, xs, c, ys, ev, hobj, hl, hx, KA⟩ := RepT.kid hn hd he h2 nd
  subst ev
  have hat : atI xs k = some (.ref c) := by
    unfold atI
    rw [hl, hk]
    exact hx
  have fin : ∀ H1, Same H H1 → Q (.ref c) H1 := fun H1 s1 => by
    have S1 := S.same s1
    refine q c H1 s1 ⟨ys, s1 _ _ KA.at_, Reps.mono (vis_same s1) _ KA.rep, fun H2 s2 ys' es' n' r' => ?_⟩
    have S2 := S1.same s2
    have hc : H2 c = some (.lst ys) := s2 _ _ (s1 _ _ KA.at_)
    refine S2.updOwns i hr rfl KA.mem h1 (by rw [hc]; rfl) rfl (fun _ _ z => by cases z) (fun _ _ z => by cases z) (fun as' d' z => ?_) (fun _ z => by cases z)
    cases z
    exact KA.upd_ _ H2 (vis_same (s1.trans s2)) (Same.ot S hr (s1.trans s2)) ys' es' n' r'
  rcases hobj with ho | ho
  · exact wpE_of (pe_ix ix_list (pe_var hN hv hdb hcd) pe_wp hp) ⟨_, h1, hb σ H S _ fun u H1 s1 r1 => by
      cases r1
      exact ⟨pp, xs, k, .ref c, rfl, rfl, .inl (.inl (s1 _ _ ho)), hat, fin H1 s1⟩⟩
  · exact wpE_of (pe_ix ix_tup (pe_var hN hv hdb hcd) pe_wp hp) ⟨_, h1, hb σ H S _ fun u H1 s1 r1 => by
      cases r1
      exact ⟨pp, xs, k, .ref c, rfl, rfl, tq (s1 _ _ (S.visIn _ _ ho)), hat, fin H1 s1⟩⟩
open Classical in
/-- the list at k: its place and what it holds (no lists in it) -/
noncomputable def kidAt (d : D) (k : Int) : Option (Nat × List D) := match d.kids with
  | some ds => (match ixN ds.length k with
    | some n => (match ds[n]? with
      | some (.lst es) => if D.noLs es = true ∧ KidP d then some (n, es) else none
      | _ => none)
    | none => none)
  | none => none
theorem kidAt_eq {d : D} {k : Int} {n : Nat} {es : List D} (h : kidAt d k = some (n, es)) : ∃ ds, d.kids = some ds ∧ ixN ds.length k = some n ∧ ds[n]? = some (.lst es) ∧ D.noLs es = true ∧ KidP d := by
  unfold kidAt at h
  split at h
  · rename_i ds q1
    split at h
    · rename_i n' q2
      split at h
      · rename_i es' q3
        split at h
        · rename_i q4
          cases h
          exact ⟨ds, q1, q2, q3, q4.1, q4.2⟩
        · cases h
      · cases h
    · cases h
  · cases h
theorem noLs_snoc {ds : List D} {d : D} (h : D.noLs ds = true) (n : d.noL = true) : D.noLs (ds ++ [d]) = true := by
  induction ds with
  | nil => show (d.noL && true) = true; rw [n]; rfl
  | cons x ds ih =>
    obtain ⟨a, b⟩ := noLs_cons h
    show (x.noL && D.noLs (ds ++ [d])) = true
    rw [a, ih b]; rfl
theorem noLs_set {d : D} (n : d.noL = true) : ∀ {ds : List D} (k : Nat), D.noLs ds = true → D.noLs (ds.set k d) = true
  | [], _, h => h
  | x :: ds, 0, h => by
    show (d.noL && D.noLs ds) = true
    rw [n, (noLs_cons h).2]; rfl
  | x :: ds, k + 1, h => by
    show (x.noL && D.noLs (ds.set k d)) = true
    rw [(noLs_cons h).1, noLs_set n k (noLs_cons h).2]; rfl
theorem noLs_dropLast : ∀ {ds : List D}, D.noLs ds = true → D.noLs ds.dropLast = true
  | [], h => h
  | [x], h => rfl
  | x :: y :: ds, h => by
    show (x.noL && D.noLs (y :: ds).dropLast) = true
    rw [(noLs_cons h).1, noLs_dropLast (noLs_cons h).2]; rfl
/-- x[k].append(e) -/
noncomputable def sAppT (i : Nat) (mk m : MX) : Fr → O := fun E => match nthS E i with
  | .ot d => (match toD (mk E) with
    | .ok (.at (.int k)) => (match kidAt d k with
      | some (n, es) => (match toD (m E) with
        | .ok x => if x.noL = true ∧ es.length < sizeLine then .nx (setS E i (.ot (d.setAt n (.lst (es ++ [x]))))) else .bad
        | _ => .bad)
      | none => .bad)
    | _ => .bad)
  | _ => .bad
theorem sm_appT (i : Nat) (nl : NoLists X.K) {x : Str} {p1 p2 p3 p4 : Pos} (hk : EM X b mk) (h : EM X e m) (hN : X.N[i]? = some x := by rfl) (hv : Vis X.env.scope x := by first | exact Or.inl rfl | exact Or.inr (Or.inl rfl) | exact Or.inr (Or.inr rfl)) (hp : PlainIx b := by intro _ _; rfl) (hs : swapsWith (.Call (.Attribute (.Subscript (.Name x p1) b p4) "append" p2) [e] [] p3) none pos.line X.env = pure false := by rfl)
    (hbase : attributeBase (.Subscript (.Name x p1) b p4) "append" X.env (eval (.Subscript (.Name x p1) b p4) X.env) = eval (.Subscript (.Name x p1) b p4) X.env := by rfl)
    (hfew : ((backTo p3 (starEach [e] X.env)).all (fun x => !x.1) && (backToKw p3 (keywordEach [] X.env)).all (fun x => x.1.isSome) && decide (([e]).length + ([] : List Keyword).length + (if ([] : List Keyword).isEmpty then 0 else 1) < 30)) = true := by rfl)
    (hline : (p2.endLine == p3.line) = true := by rfl) (he1 : starEach [e] X.env = (false, eval e X.env) :: starEach [] X.env := by exact se_of rfl) (hd : (x == ("__debug__" : Str)) = false := by decide) (hcd : (x == ("__classdict__" : Str)) = false := by decide) : SM X (.Expr (.Call (.Attribute (.Subscript (.Name x p1) b p4) "append" p2) [e] [] p3) pos) (sAppT i mk m) := .mk fun C ρ P ok => by
  unfold sAppT at ok
  split at ok
  · rename_i d q
    split at ok
    · rename_i k q1
      split at ok
      · rename_i n es q2
        split at ok
        · rename_i y q3
          split at ok
          · rename_i z
            obtain ⟨as, hr⟩ := nth_ot q
            obtain ⟨ds, g1, g2, g3, g4, g5⟩ := kidAt_eq q2
            intro σ H D S L
            refine wpS_of (ps_expr (pe_bm PySem.F.plainAttrs_list PySem.F.slot_list_append PySem.F.type_list_append mt_append pe_wp (pa_cons pe_wp pa_nil he1) hbase hfew hline he1 rfl) hs) (kid_run nl hr g5 g1 g2 g3 g4 (hk.ee q1) hN hv hp hd hcd S fun c H1 s1 ⟨ys, a1, a2, a3⟩ => ?_)
            refine ⟨.inl ⟨rfl, _, .inl (.inl a1)⟩, h.ee q3 σ H1 (S.same s1) _ fun u H2 s2 r2 => ?_⟩
            obtain ⟨S2, t2⟩ := a3 H2 s2 (ys ++ [u]) (es ++ [y]) (noLs_snoc g4 z.1) ((Reps.mono (vis_same s2) _ a2).append (.cons r2 .nil))
            exact ⟨c, ys, u, rfl, rfl, s2 _ _ a1, by rw [a2.length]; exact z.2, L.nx _ _ _ (ok _ (frOf_set ..)) S2 (((vis_same s1).trans (vis_same s2)).trans t2)⟩
          · exact ok.elim
        · exact ok.elim
      · exact ok.elim
    · exact ok.elim
  · exact ok.elim
/-- x[k].pop() -/
noncomputable def sPopT (i : Nat) (mk : MX) : Fr → O := fun E => match nthS E i with
  | .ot d => (match toD (mk E) with
    | .ok (.at (.int k)) => (match kidAt d k with
      | some (n, es) => if es = [] then .bad else .nx (setS E i (.ot (d.setAt n (.lst es.dropLast))))
      | none => .bad)
    | _ => .bad)
  | _ => .bad
/-- x[k].clear() -/
noncomputable def sClearT (i : Nat) (mk : MX) : Fr → O := fun E => match nthS E i with
  | .ot d => (match toD (mk E) with
    | .ok (.at (.int k)) => (match kidAt d k with
      | some (n, es) => .nx (setS E i (.ot (d.setAt n (.lst []))))
      | none => .bad)
    | _ => .bad)
  | _ => .bad
/-- x[k][j] = e -/
noncomputable def sSetIxT (i : Nat) (mk mj m : MX) : Fr → O := fun E => match nthS E i with
  | .ot d => (match toD (mk E) with
    | .ok (.at (.int k)) => (match kidAt d k with
      | some (n, es) => (match toD (mj E) with
        | .ok (.at (.int j)) => (match ixN es.length j with
          | some l => (match toD (m E) with
            | .ok x => if x.noL = true then .nx (setS E i (.ot (d.setAt n (.lst (es.set l x))))) else .bad
            | _ => .bad)
          | none => .bad)
        | _ => .bad)
      | none => .bad)
    | _ => .bad)
  | _ => .bad
theorem sm_setIxT (i : Nat) (nl : NoLists X.K) {x : Str} {p1 p2 p3 : Pos} {bj : Expr} (hk : EM X b mk) (hj : EM X bj mj) (h : EM X e m) (hN : X.N[i]? = some x := by rfl) (hv : Vis X.env.scope x := by first | exact Or.inl rfl | exact Or.inr (Or.inl rfl) | exact Or.inr (Or.inr rfl)) (hp : PlainIx b := by intro _ _; rfl)
    (ha : ∀ v, assign (.Subscript (.Subscript (.Name x p1) b p3) bj p2) X.env v = (do
      let ov ← holding [v] (eval (.Subscript (.Name x p1) b p3) X.env)
      let iv ← holding [v, ov] (eval bj X.env)
      standAt p2
      holding [v, ov, iv] (setItem ov iv v)
      release [v, ov, iv] []) := by intro _; rfl) (hs : swapsWithSole [.Subscript (.Subscript (.Name x p1) b p3) bj p2] e pos.line X.env = pure false := by rfl) (hw : swappedStores [.Subscript (.Subscript (.Name x p1) b p3) bj p2] e X.env = pure none := by rfl) (h1 : (assignEach [.Subscript (.Subscript (.Name x p1) b p3) bj p2] X.env).map (·.2) = [assign (.Subscript (.Subscript (.Name x p1) b p3) bj p2) X.env] := by rfl)
    (hd : (x == ("__debug__" : Str)) = false := by decide) (hcd : (x == ("__classdict__" : Str)) = false := by decide) : SM X (.Assign [.Subscript (.Subscript (.Name x p1) b p3) bj p2] e pos) (sSetIxT i mk mj m) := .mk fun C ρ P ok => by
  unfold sSetIxT at ok
  split at ok
  · rename_i d q
    split at ok
    · rename_i k q1
      split at ok
      · rename_i n es q2
        split at ok
        · rename_i j q3
          split at ok
          · rename_i l q4
            split at ok
            · rename_i y q5
              split at ok
              · rename_i z
                obtain ⟨as, hr⟩ := nth_ot q
                obtain ⟨ds, g1, g2, g3, g4, g5⟩ := kidAt_eq q2
                intro σ H D S L
                refine wpS_of (ps_asg pe_wp (pg_sub pe_wp pe_wp set_list ha) hs hw h1) (h.ee q5 σ H S _ fun u H1 s1 r1 => ?_)
                have S1 := S.same s1
                refine kid_run nl hr g5 g1 g2 g3 g4 (hk.ee q1) hN hv hp hd hcd S1 fun c H2 s2 ⟨ys, a1, a2, a3⟩ => ?_
                refine hj.ee q3 σ H2 (S1.same s2) _ fun w H3 s3 r3 => ?_
                cases r3
                obtain ⟨S3, t3⟩ := a3 H3 s3 (ys.set l u) (es.set l y) (noLs_set z l g4) (Reps.set l (Rep.mono (vis_same (s2.trans s3)) _ r1) (Reps.mono (vis_same s3) _ a2))
                exact ⟨c, ys, j, l, rfl, rfl, s3 _ _ a1, by rw [a2.length]; exact q4, L.nx _ _ _ (ok _ (frOf_set ..)) S3 (((vis_same s1).trans (vis_same (s2.trans s3))).trans t3)⟩
              · exact ok.elim
            · exact ok.elim
          · exact ok.elim
        · exact ok.elim
      · exact ok.elim
    · exact ok.elim
  · exact ok.elim
theorem sm_popT (i : Nat) (nl : NoLists X.K) {x : Str} {p1 p2 p3 p4 : Pos} (hk : EM X b mk) (hN : X.N[i]? = some x := by rfl) (hv : Vis X.env.scope x := by first | exact Or.inl rfl | exact Or.inr (Or.inl rfl) | exact Or.inr (Or.inr rfl)) (hp : PlainIx b := by intro _ _; rfl) (hs : swapsWith (.Call (.Attribute (.Subscript (.Name x p1) b p4) "pop" p2) [] [] p3) none pos.line X.env = pure false := by rfl)
    (hbase : attributeBase (.Subscript (.Name x p1) b p4) "pop" X.env (eval (.Subscript (.Name x p1) b p4) X.env) = eval (.Subscript (.Name x p1) b p4) X.env := by rfl)
    (hline : (p2.endLine == p3.line) = true := by rfl) (hd : (x == ("__debug__" : Str)) = false := by decide) (hcd : (x == ("__classdict__" : Str)) = false := by decide) : SM X (.Expr (.Call (.Attribute (.Subscript (.Name x p1) b p4) "pop" p2) [] [] p3) pos) (sPopT i mk) := .mk fun C ρ P ok => by
  unfold sPopT at ok
  split at ok
  · rename_i d q
    split at ok
    · rename_i k q1
      split at ok
      · rename_i n es q2
        split at ok
        · exact ok.elim
        · rename_i ne
          obtain ⟨as, hr⟩ := nth_ot q
          obtain ⟨ds, g1, g2, g3, g4, g5⟩ := kidAt_eq q2
          intro σ H D S L
          obtain ⟨_, y, rfl, hd'⟩ := getLast_split ne
          refine wpS_of (ps_expr (pe_bm0 PySem.F.plainAttrs_list PySem.F.slot_list_pop PySem.F.type_list_pop mt_pop pe_wp hbase hline) hs) (kid_run nl hr g5 g1 g2 g3 g4 (hk.ee q1) hN hv hp hd hcd S fun c H1 s1 ⟨ys, a1, a2, a3⟩ => ?_)
          obtain ⟨u, hu, ru⟩ := a2.get hd'
          obtain ⟨S2, t2⟩ := a3 H1 (Same.refl _) _ _ (noLs_dropLast g4) (dropLast_reps a2)
          exact ⟨.inl ⟨rfl, _, .inl (.inl a1)⟩, c, ys, u, rfl, rfl, a1, by rw [a2.length]; exact hu, L.nx _ _ _ (ok _ (frOf_set ..)) S2 ((vis_same s1).trans t2)⟩
      · exact ok.elim
    · exact ok.elim
  · exact ok.elim
theorem sm_clearT (i : Nat) (nl : NoLists X.K) {x : Str} {p1 p2 p3 p4 : Pos} (hk : EM X b mk) (hN : X.N[i]? = some x := by rfl) (hv : Vis X.env.scope x := by first | exact Or.inl rfl | exact Or.inr (Or.inl rfl) | exact Or.inr (Or.inr rfl)) (hp : PlainIx b := by intro _ _; rfl) (hs : swapsWith (.Call (.Attribute (.Subscript (.Name x p1) b p4) "clear" p2) [] [] p3) none pos.line X.env = pure false := by rfl)
    (hbase : attributeBase (.Subscript (.Name x p1) b p4) "clear" X.env (eval (.Subscript (.Name x p1) b p4) X.env) = eval (.Subscript (.Name x p1) b p4) X.env := by rfl)
    (hline : (p2.endLine == p3.line) = true := by rfl) (hd : (x == ("__debug__" : Str)) = false := by decide) (hcd : (x == ("__classdict__" : Str)) = false := by decide) : SM X (.Expr (.Call (.Attribute (.Subscript (.Name x p1) b p4) "clear" p2) [] [] p3) pos) (sClearT i mk) := .mk fun C ρ P ok => by
  unfold sClearT at ok
  split at ok
  · rename_i d q
    split at ok
    · rename_i k q1
      split at ok
      · rename_i n es q2
        obtain ⟨as, hr⟩ := nth_ot q
        obtain ⟨ds, g1, g2, g3, g4, g5⟩ := kidAt_eq q2
        intro σ H D S L
        refine wpS_of (ps_expr (pe_bm0 PySem.F.plainAttrs_list PySem.F.slot_list_clear PySem.F.type_list_clear mt_clear pe_wp hbase hline) hs) (kid_run nl hr g5 g1 g2 g3 g4 (hk.ee q1) hN hv hp hd hcd S fun c H1 s1 ⟨ys, a1, a2, a3⟩ => ?_)
        obtain ⟨S2, t2⟩ := a3 H1 (Same.refl _) [] [] rfl .nil
        exact ⟨.inl ⟨rfl, _, .inl (.inl a1)⟩, c, ys, rfl, rfl, a1, L.nx _ _ _ (ok _ (frOf_set ..)) S2 ((vis_same s1).trans t2)⟩
      · exact ok.elim
    · exact ok.elim
  · exact ok.elim
end
end DL

set_option maxHeartbeats 4000000
/-! ### trees of lists of one's own: how they come to be, how they are read -/
namespace DL
open PySem PySem.Spec PyProof.Rows L2
theorem vis_news {C : Ctx} {o as : List Addr} {H H' : Hp} (i : Same (vis C o H) H) (n : ∀ a ∈ as, H a = none) (s : Same H H') : Same (vis C o H) (vis C (as ++ o) H') := fun y u hy => by
  have ny : y ∉ as := fun z => by
    have e := i _ _ hy
    rw [n y z] at e
    cases e
  have h2 := vis_same (C := C) (o := o) s _ _ hy
  unfold vis at h2 ⊢
  simp only [List.mem_append, ny, false_or]
  exact h2
theorem vis_hids {C : Ctx} {o o' as : List Addr} {H : Hp} (h : ∀ b, b ∈ o ∨ b ∈ C.hid → b ∈ o' ∨ b ∈ as ++ C.hid) : Same (vis { C with hid := as ++ C.hid } o' H) (vis C o H) := fun b x hb => by
  unfold vis at hb ⊢
  split at hb
  · rename_i q
    rw [if_pos q]
    exact hb
  · rename_i q
    rw [if_neg q]
    split at hb
    · cases hb
    · rename_i z
      rw [if_neg fun m => z ⟨h b m.1, m.2⟩]
      exact hb
section
variable {K : PySem.W.Frag} {C : Ctx} {H H' : Hp} {σ : L2.St} {ρ : Rho}
theorem SRel.hides (S : SRel K C H σ ρ) {as : List Addr} (n : ∀ a ∈ as, H a = none) (s : Same H H') (there : ∀ a ∈ as, H' a ≠ none) : SRel K { C with hid := as ++ C.hid } H' σ ρ := by
  have sm : Same (vis C (ows ρ) H) (vis { C with hid := as ++ C.hid } (ows ρ) H') := fun b u hb => by
    have nb : b ∉ as := fun z => by
      have e := S.visIn _ _ hb
      rw [n b z] at e
      cases e
    have h2 := vis_same (C := C) (o := ows ρ) s _ _ hb
    unfold vis at h2 ⊢
    simp only [List.mem_append, nb, false_or]
    exact h2
  refine ⟨S.len, S.gh, S.hh.trans s, S.nd, fun a h => ?_, fun a h z => ?_, fun i d h => ?_, fun i a ds h => ?_, fun i a ds h => ?_, fun i bs t h => ?_, fun i a k ds h => ?_⟩
  · rcases h with h | h
    · exact ⟨(S.fr a (.inl h)).1, fun z => (S.fr a (.inl h)).2 (s.free z)⟩
    · rcases List.mem_append.mp h with z | z
      · exact ⟨(S.new (n a z)).1, there a z⟩
      · exact ⟨(S.fr a (.inr z)).1, fun y => (S.fr a (.inr z)).2 (s.free y)⟩
  · rcases List.mem_append.mp z with z | z
    · exact (S.new (n a z)).2.1 h
    · exact S.dj a h z
  · obtain ⟨v, h1, h2⟩ := S.im i d h
    exact ⟨v, h1, Rep.mono sm _ h2⟩
  · obtain ⟨h1, xs, h2, h3⟩ := S.ow i a ds h
    exact ⟨h1, xs, s _ _ h2, Reps.mono sm _ h3⟩
  · obtain ⟨h1, xs, h2, h3⟩ := S.od i a ds h
    exact ⟨h1, xs, s _ _ h2, h3.mono sm⟩
  · obtain ⟨v, h1, h2⟩ := S.ot i bs t h
    exact ⟨v, h1, RepT.mono sm _ (fun b hb => (Same.ot S h s b hb).symm) h2⟩
  · obtain ⟨h1, xs, o, h2, h3, h4⟩ := S.og i a k ds h
    exact ⟨h1, xs, o, s _ _ h2, h3, Reps.mono sm _ h4⟩
end
theorem RepT.fl {K : PySem.W.Frag} {W H : Hp} {d : D} {v : V} {as : List Addr} (h : d.isFl = true) (r : RepT K W H v d as) : as.Nodup := by
  cases d with
  | lst l =>
    cases r with
    | leaf _ z => cases z
    | lst s r' =>
      obtain ⟨e, _⟩ := RepTs.flat l h r'
      subst e
      exact List.nodup_cons.mpr ⟨List.not_mem_nil, List.nodup_nil⟩
  | _ => cases h
/-- e is evaluated to a tree whose lists are all new -/
def EFt (X : Cx) (C : Ctx) (ρ : Rho) (e : Expr) (d : D) : Prop :=
  ∀ σ H, SRel X.K C H σ ρ → ∀ Q : VK, (∀ v as H', (∀ a ∈ as, H a = none) → Same H H' → RepT X.K (vis C (as ++ ows ρ) H') H' v d as → Q v H') → wpE X e σ H Q
def EAt (X : Cx) (C : Ctx) (ρ : Rho) (es : List Expr) (ds : List D) : Prop :=
  ∀ σ H, SRel X.K C H σ ρ → ∀ Q : List V → Hp → Prop, (∀ vs as H', (∀ a ∈ as, H a = none) → Same H H' → RepTs X.K (vis C (as ++ ows ρ) H') H' vs ds as → (D.allFl ds = true → as.Nodup) → Q vs H') → wpA X es σ H Q
structure XM (X : Cx) (e : Expr) (m : Fr → R D) : Prop where
  run : ∀ C ρ d, m (frOf ρ) = .ok d → EFt X C ρ e d
structure XAM (X : Cx) (es : List Expr) (m : Fr → R (List D)) : Prop where
  run : ∀ C ρ ds, m (frOf ρ) = .ok ds → EAt X C ρ es ds
section
variable {X : Cx} {C : Ctx} {ρ ρ' : Rho} {e b c : Expr} {es : List Expr} {m mk mj : MX} {pos p : Pos} {P : Post} {x1 : Nat}
def xOf (m : MX) : Fr → R D := fun E => match m E with
  | .ok (.im d) => if d.noL = true then .ok d else .bad
  | .ok (.fr ds) => if D.noLs ds = true then .ok (.lst ds) else .bad
  | _ => .bad
theorem xm_of (h : EM X e m) : XM X e (xOf m) := .mk fun C ρ d q => by
  have h' := h C ρ
  unfold xOf at q
  split at q
  · rename_i d' q1
    rw [q1] at h'
    split at q
    · rename_i n
      cases q
      intro σ H S Q k
      exact h' σ H S _ fun v H1 s1 r1 => k v [] H1 (fun a z => absurd z List.not_mem_nil) s1 (.leaf r1 n)
    · cases q
  · rename_i ds q1
    rw [q1] at h'
    split at q
    · rename_i n
      cases q
      intro σ H S Q k
      exact h' σ H S _ fun a xs H1 na s1 l r1 => k _ [a] H1 (fun b z => by rw [List.mem_singleton.mp z]; exact na) s1 (.lst (na := List.not_mem_nil) (nd := fun _ => List.nodup_nil) l (RepTs.leaves n r1))
    · cases q
  · cases q
def xNil : Fr → R (List D) := fun _ => .ok []
def xCons (m : Fr → R D) (r : Fr → R (List D)) : Fr → R (List D) := fun E => consR (m E) (r E)
theorem xam_nil : XAM X [] xNil := .mk fun C ρ ds q => by
  cases q
  exact fun σ H S Q k => wpA_of pa_nil (k [] [] H (fun a z => absurd z List.not_mem_nil) (Same.refl H) .nil fun _ => List.nodup_nil)
theorem consR_ok' {x : R D} {l : R (List D)} {ds : List D} (h : consR x l = .ok ds) : ∃ d es, x = .ok d ∧ l = .ok es ∧ ds = d :: es := by
  cases x with
  | ok d =>
    cases l with
    | ok es => cases h; exact ⟨d, es, rfl, rfl, rfl⟩
    | er n => cases h
    | bad => cases h
  | er n => cases h
  | bad => cases h
theorem xam_cons {xm : Fr → R D} {xr : Fr → R (List D)} (h : XM X e xm) (hr : XAM X es xr) (hs : starEach (e :: es) X.env = (false, eval e X.env) :: starEach es X.env := by exact se_of rfl) : XAM X (e :: es) (xCons xm xr) := .mk fun C ρ ds q => by
  obtain ⟨d, ds', q1, q2, rfl⟩ := consR_ok' q
  intro σ H S Q k
  refine wpA_of (pa_cons pe_wp pa_wp hs) (h.run C ρ d q1 σ H S _ fun v as1 H1 n1 s1 r1 => ?_)
  have there : ∀ a ∈ as1, H1 a ≠ none := fun a ha z => by
    obtain ⟨xs, e⟩ := RepT.isl _ r1 a ha
    rw [e] at z
    cases z
  refine hr.run { C with hid := as1 ++ C.hid } ρ ds' q2 σ H1 (S.hides n1 s1 there) _ fun vs as2 H2 n2 s2 r2 f2 => ?_
  refine k (v :: vs) (as1 ++ as2) H2 (fun a ha => ?_) (s1.trans s2) (.cons (RepT.mono ?_ _ (fun a ha => ?_) r1) (RepTs.mono ?_ _ (fun _ _ => rfl) r2)) fun af => ?_
  · rcases List.mem_append.mp ha with z | z
    · exact n1 a z
    · exact s1.free (n2 a z)
  · refine (vis_news (as := as2) (vis_in S.gh (S.hh.trans s1)) n2 s2).trans (vis_sub fun b hb => ?_)
    rcases List.mem_append.mp hb with z | z
    · rcases List.mem_append.mp z with z | z
      · exact List.mem_append_right _ (List.mem_append_left _ z)
      · exact List.mem_append_left _ z
    · exact List.mem_append_right _ (List.mem_append_right _ z)
  · obtain ⟨xs, e⟩ := RepT.isl _ r1 a ha
    rw [e]
    exact (s2 _ _ e).symm
  · refine vis_hids fun b hb => ?_
    rcases hb with z | z
    · rcases List.mem_append.mp z with z | z
      · rcases List.mem_append.mp z with z | z
        · exact .inr (List.mem_append_left _ z)
        · exact .inl (List.mem_append_left _ z)
      · exact .inl (List.mem_append_right _ z)
    · exact .inr (List.mem_append_right _ z)
  · have g := (Bool.and_eq_true _ _).mp af
    refine List.nodup_append.mpr ⟨RepT.fl g.1 r1, f2 g.2, fun a ha b hb z => ?_⟩
    subst z
    exact there a ha (n2 a hb)
def xLst (r : Fr → R (List D)) : Fr → R D := fun E => match r E with
  | .ok ds => if ds.length ≤ sizeLine then .ok (.lst ds) else .bad
  | _ => .bad
def xTup (r : Fr → R (List D)) : Fr → R D := fun E => match r E with
  | .ok ds => if ds.length ≤ sizeLine then .ok (.tup ds) else .bad
  | _ => .bad
theorem xm_lst {xr : Fr → R (List D)} (h : XAM X es xr) : XM X (.List es pos) (xLst xr) := .mk fun C ρ d q => by
  unfold xLst at q
  split at q
  · rename_i ds q1
    split at q
    · rename_i hl
      cases q
      intro σ H S Q k
      refine wpE_of (pe_lst pa_wp) (h.run C ρ ds q1 σ H S _ fun vs as H1 n1 s1 r1 f1 => ⟨by rw [RepTs.length r1]; exact hl, fun p np => ?_⟩)
      have pn : p ∉ as := fun z => by
        obtain ⟨xs, e⟩ := RepTs.isl _ r1 p z
        rw [e] at np
        cases np
      refine k _ (p :: as) _ (fun a ha => ?_) (s1.trans (same_upd np)) (.lst (na := pn) (nd := f1) upd_same (RepTs.mono ?_ _ (fun a ha => ?_) r1))
      · rcases List.mem_cons.mp ha with z | z
        · rw [z]; exact s1.free np
        · exact n1 a z
      · exact vis_news (as := [p]) (vis_in S.gh (S.hh.trans s1)) (fun b z => by rw [List.mem_singleton.mp z]; exact np) (same_upd np)
      · have na : a ≠ p := fun z => pn (by rw [← z]; exact ha)
        rw [upd_ne na]
    · cases q
  · cases q
theorem xm_tup {xr : Fr → R (List D)} (h : XAM X es xr) : XM X (.Tuple es x1 pos) (xTup xr) := .mk fun C ρ d q => by
  unfold xTup at q
  split at q
  · rename_i ds q1
    split at q
    · rename_i hl
      cases q
      intro σ H S Q k
      refine wpE_of (pe_tup pa_wp) (h.run C ρ ds q1 σ H S _ fun vs as H1 n1 s1 r1 f1 => ⟨by rw [RepTs.length r1]; exact hl, fun p np => ?_⟩)
      have pn : p ∉ as := fun z => by
        obtain ⟨xs, e⟩ := RepTs.isl _ r1 p z
        rw [e] at np
        cases np
      have p0 := S.new (s1.free np)
      refine k _ as _ n1 (s1.trans (same_upd np)) (.tup ?_ (RepTs.mono (vis_same (same_upd np)) _ (fun a ha => ?_) r1))
      · rw [vis_at p0.1 (fun z => (List.mem_append.mp z).elim pn p0.2.1) p0.2.2]
        exact upd_same
      · have na : a ≠ p := fun z => pn (by rw [← z]; exact ha)
        rw [upd_ne na]
    · cases q
  · cases q
/-- x = a tree of one's own -/
def sSetX (i : Nat) (m : Fr → R D) : Fr → O := fun E => match m E with
  | .ok d => .nx (setS E i (.ot d))
  | _ => .bad
theorem sm_setX (i : Nat) {x : Str} {p' : Pos} {xm : Fr → R D} (h : XM X e xm) (hN : X.N.Nodup) (hi : X.N[i]? = some x := by rfl) (hx : Loc X.env.scope x := by first | exact Or.inl rfl | exact Or.inr rfl) (hs : swapsWith e (some (.Name x p')) pos.line X.env = pure false := by rfl)
    (hf : X.fn x = true ∨ X.env.scope.names.lookup x = some .local := by first | exact .inl rfl | exact .inr rfl) : SM X (.Assign [.Name x p'] e pos) (sSetX i xm) := .mk fun C ρ P ok => by
  unfold sSetX at ok
  split at ok
  · rename_i d q
    intro σ H D S L
    refine wpS_of (ps_set hN hi hx pe_wp hs hf) (h.run C ρ d q σ H S _ fun v as H1 n1 s1 r1 => ?_)
    have there : ∀ a ∈ as, H1 a ≠ none := fun a ha z => by
      obtain ⟨xs, e⟩ := RepT.isl _ r1 a ha
      rw [e] at z
      cases z
    by_cases hl : i < ρ.length
    · obtain ⟨S2, s2⟩ := S.setOwns i hl (v := v) (x := .ot as d) n1 s1 there (fun _ _ z => by cases z) (fun _ _ z => by cases z) (fun as' d' z => by cases z; exact r1) (fun _ z => by cases z)
      exact L.nx _ _ H1 (ok _ (frOf_set ..)) S2 s2
    · have h' := ok (ρ.set i (.ot as d)) (frOf_set ..)
      rw [set_oob hl] at h'
      show D.nx (σ.set i (some v)) H1
      rw [set_oobS (by rw [S.len]; exact hl)]
      exact L.nx _ _ H1 h' (S.same s1) (vis_same s1)
  · exact ok.elim
/-! ### a tree is lent -/
def thaw (E : Fr) (j : Nat) : Fr := match nthS E j with
  | .ot d => setS E j (.im d)
  | _ => E
def borR : R RV → R RV
  | .ok (.im d) => if d.noL = true then .ok (.im d) else .bad
  | .ok (.fr ds) => if D.noLs ds = true then .ok (.fr ds) else .bad
  | .er n => .er n
  | _ => .bad
def bor (j : Nat) (m : MX) : MX := fun E => borR (m (thaw E j))
def borT (j : Nat) (t : Fr → R Bool) : Fr → R Bool := fun E => t (thaw E j)
theorem tupl_thaw {K : PySem.W.Frag} {H : Hp} {σ : L2.St} (S : SRel K C H σ ρ) {j : Nat} {as : List Addr} {d : D} (hr : ρ[j]? = some (.ot as d)) {H1 : Hp} (s1 : Same H H1) (l : List Addr) : Tupl (vis C (l ++ ows (ρ.set j (.im d))) H1) (vis C (l ++ ows ρ) H1) := fun a xs h => by
  have hH : H1 a = some (.tup xs) := vis_in S.gh (S.hh.trans s1) _ _ h
  have na : a ∉ as := fun z => by
    obtain ⟨v, _, r⟩ := S.ot j as d hr
    obtain ⟨ys, e⟩ := RepT.isl _ r a z
    rw [s1 _ _ e] at hH
    cases hH
  have back : a ∈ ows ρ → a ∈ ows (ρ.set j (.im d)) := fun z => by
    obtain ⟨l', r', e1, e2⟩ := ows_split ρ j (.im d) (List.getElem?_eq_some_iff.mp hr).1
    rw [e1, ownAt_of hr] at z
    rw [e2]
    rcases List.mem_append.mp z with z | z
    · rcases List.mem_append.mp z with z | z
      · exact List.mem_append_left _ (List.mem_append_left _ z)
      · exact (na z).elim
    · exact List.mem_append_right _ z
  unfold vis at h ⊢
  split at h
  · rename_i q; rw [if_pos q]; exact h
  · rename_i q
    rw [if_neg q]
    split at h
    · cases h
    · rename_i z
      rw [if_neg fun m => z ⟨m.1.elim (fun y => .inl ((List.mem_append.mp y).elim (fun w => List.mem_append_left _ w) fun w => List.mem_append_right _ (back w))) .inr, m.2⟩]
      exact h
theorem em_bor (j : Nat) (h : EM X e m) : EM X e (bor j m) := .mk fun C ρ => by
  unfold bor thaw
  split
  · rename_i d q
    obtain ⟨as, hr⟩ := nth_ot q
    have h' := h C (ρ.set j (.im d))
    rw [frOf_set] at h'
    revert h'
    show OKV X C (ρ.set j (.im d)) e (m (setS (frOf ρ) j (.im d))) → _
    generalize m (setS (frOf ρ) j (.im d)) = r
    intro h'
    unfold borR
    split
    · split
      · rename_i r n
        show EE X C ρ e _
        exact fun σ H S Q q => h' σ H (S.thaw j hr).1 Q fun v H1 s1 r1 => q v H1 s1 (Rep.noL (tupl_thaw S hr s1 []) _ n r1)
      · trivial
    · split
      · rename_i ds n
        show EF X C ρ e _
        exact fun σ H S Q q => h' σ H (S.thaw j hr).1 Q fun a xs H1 na s1 l r1 => q a xs H1 na s1 l (Reps.noL (tupl_thaw S hr s1 [a]) _ n r1)
      · trivial
    · show EX X C ρ e _
      exact fun σ H S W tk hW Q => h' σ H (S.thaw j hr).1 W tk hW Q
    · trivial
  · have h' := h C ρ
    revert h'
    generalize m (frOf ρ) = r
    intro h'
    unfold borR
    split
    · split
      · exact h'
      · trivial
    · split
      · exact h'
      · trivial
    · exact h'
    · trivial
theorem tm_bor (j : Nat) {t : Fr → R Bool} (h : TM X e t) : TM X e (borT j t) := .mk fun C ρ k q => by
  unfold borT thaw at q
  split at q
  · rename_i d q1
    obtain ⟨as, hr⟩ := nth_ot q1
    have h' := h.run C (ρ.set j (.im d)) k (by rw [frOf_set]; exact q)
    exact fun σ H S Q kk => h' σ H (S.thaw j hr).1 Q kk
  · exact h.run C ρ k q
end
end DL

set_option maxHeartbeats 4000000
/-! ### texts -/
namespace DL
open PySem PySem.Spec PyProof.Rows L2
section
variable {X : Cx} {C : Ctx} {ρ : Rho} {e a b c tg iter elt : Expr} {es : List Expr} {m ma mb mc : MX} {d : D} {ds : List D} {pos p spos py apos : Pos}
theorem ee_gstr {x : Str} {i : Str} (hm : ∃ t, X.mg x = some (.str i t)) (hg : Gl X x := by rfl) (hd : (x == ("__debug__" : Str)) = false := by decide) : EE X C ρ (.Name x pos) (.str i) := by
  obtain ⟨t, h⟩ := hm
  exact ee_c (pe_glob hg h ⟨t, rfl⟩ hd)
theorem em_gstr {x : Str} {i : Str} (hm : ∃ t, X.mg x = some (.str i t)) (hg : Gl X x := by rfl) (hd : (x == ("__debug__" : Str)) = false := by decide) : EM X (.Name x pos) (eC (.str i)) := em_c fun _ _ => ee_gstr hm hg hd
def strcR : R D → R RV
  | .ok (.at (.int i)) => if i.natAbs.log2 < 1920 then .ok (.im (.str (Str.ofString (toString i)))) else .bad
  | _ => .bad
def eStr (m : MX) : MX := fun E => strcR (toD (m E))
theorem em_strc (hm : X.mg "str" = none) (ha : EM X e m) (hg : Gl X "str" := by rfl) (he : starEach [e] X.env = (false, eval e X.env) :: starEach [] X.env := by exact se_of rfl) : EM X (.Call (.Name "str" p) [e] [] pos) (eStr m) := .mk fun C ρ => by
  unfold eStr strcR
  split
  · rename_i i q
    split
    · exact ee_strI hm (ha.ee q) (by assumption) hg he
    · trivial
  · trivial
def str2 (f : Str → Str → R RV) : D → D → R RV
  | .at (.str x), .at (.str y) => f x y
  | _, _ => .bad
def swR (x y : Str) : R RV := .ok (.im (.bl (Txt.startswith x y)))
def findR (x y : Str) : R RV := .ok (.im (.int (Txt.find x y)))
def indexR (x y : Str) : R RV := match Builtin.Str.occurrences x y 0 x.length 1 with
  | i :: _ => .ok (.im (.int (i : Nat)))
  | [] => .bad
def partR (x y : Str) : R RV := if (y.length == 0) = false ∧ x.length ≤ sizeLine then .ok (.im (.tup [.str (Txt.partition x y).1, .str (Txt.partition x y).2.1, .str (Txt.partition x y).2.2])) else .bad
abbrev eStartswith := e2 (str2 swR)
abbrev eFind := e2 (str2 findR)
abbrev eIndex := e2 (str2 indexR)
abbrev ePartition := e2 (str2 partR)
theorem em_str2 {f : Str → Str → R RV} (ha : EM X a ma) (hb : EM X b mb) (h : ∀ C ρ x y, EE X C ρ a (.str x) → EE X C ρ b (.str y) → OKV X C ρ e (f x y)) : EM X e (e2 (str2 f) ma mb) := em_e2 ha hb fun C ρ x y h1 h2 => by
  unfold str2
  split
  · exact h C ρ _ _ h1 h2
  · trivial
theorem em_startswith (ha : EM X a ma) (hb : EM X b mb) (hs : starEach [b] X.env = [(false, eval b X.env)] := by exact se_of rfl) (hbase : attributeBase a "startswith" X.env (eval a X.env) = eval a X.env := by rfl) (hline : (apos.endLine == pos.line) = true := by rfl) : EM X (.Call (.Attribute a "startswith" apos) [b] [] pos) (eStartswith ma mb) := em_str2 ha hb fun C ρ x y h1 h2 => ee_startswith h1 h2 hs hbase hline
theorem em_find (ha : EM X a ma) (hb : EM X b mb) (hs : starEach [b] X.env = [(false, eval b X.env)] := by exact se_of rfl) (hbase : attributeBase a "find" X.env (eval a X.env) = eval a X.env := by rfl) (hline : (apos.endLine == pos.line) = true := by rfl) : EM X (.Call (.Attribute a "find" apos) [b] [] pos) (eFind ma mb) := em_str2 ha hb fun C ρ x y h1 h2 => ee_find h1 h2 hs hbase hline
theorem em_index (ha : EM X a ma) (hb : EM X b mb) (hs : starEach [b] X.env = [(false, eval b X.env)] := by exact se_of rfl) (hbase : attributeBase a "index" X.env (eval a X.env) = eval a X.env := by rfl) (hline : (apos.endLine == pos.line) = true := by rfl) : EM X (.Call (.Attribute a "index" apos) [b] [] pos) (eIndex ma mb) := em_str2 ha hb fun C ρ x y h1 h2 => by
  unfold indexR
  split
  · exact ee_index h1 h2 (by assumption) hs hbase hline
  · trivial
theorem em_partition (ha : EM X a ma) (hb : EM X b mb) (hs : starEach [b] X.env = [(false, eval b X.env)] := by exact se_of rfl) (hbase : attributeBase a "partition" X.env (eval a X.env) = eval a X.env := by rfl) (hline : (apos.endLine == pos.line) = true := by rfl) : EM X (.Call (.Attribute a "partition" apos) [b] [] pos) (ePartition ma mb) := em_str2 ha hb fun C ρ x y h1 h2 => by
  unfold partR
  split
  · rename_i z
    exact ee_partition h1 h2 z.1 z.2 hs hbase hline
  · trivial
/-- a sign in a text -/
def inSR : R D → R D → R Bool
  | .ok (.at (.str x)), .ok (.at (.str z)) => (match x.cps.toList with
    | [c] => .ok (decide (c ∈ z.cps.toList))
    | _ => .bad)
  | _, _ => .bad
def cInS (ma mb : MX) : Fr → R Bool := fun E => inSR (toD (ma E)) (toD (mb E))
def cNotInS (ma mb : MX) : Fr → R Bool := fun E => notR (inSR (toD (ma E)) (toD (mb E)))
theorem one_sign {x : Str} {c : Nat} (h : x.cps.toList = [c]) : x = ⟨#[c]⟩ := by
  cases x with
  | mk cps =>
    have : cps = #[c] := by
      apply Array.ext'
      exact h
    rw [this]
theorem inSR_ok (ha : EM X a ma) (hb : EM X b mb) {k : Bool} (q : inSR (toD (ma (frOf ρ))) (toD (mb (frOf ρ))) = .ok k) : EC X C ρ .In a b (.bl k) ∧ EC X C ρ .NotIn a b (.bl (!k)) := by
  unfold inSR at q
  split at q
  · rename_i x z q1 q2
    split at q
    · rename_i ch q3
      cases q
      have h1 := ha.ee (C := C) q1
      rw [one_sign q3] at h1
      exact ec_inS h1 (hb.ee q2)
    · cases q
  · cases q
theorem cm_inS (hu : X.A.units + 65 < cLine) (ha : EM X a ma) (hb : EM X b mb) : CM X .In a b (cInS ma mb) := .mk fun C ρ k q => (inSR_ok ha hb q).1
theorem cm_ninS (hu : X.A.units + 65 < cLine) (ha : EM X a ma) (hb : EM X b mb) : CM X .NotIn a b (cNotInS ma mb) := .mk fun C ρ k q => by
  obtain ⟨k', q', rfl⟩ := notR_ok q
  exact (inSR_ok ha hb q').2
end
/-! evaluation -/
section
variable {E : Fr} {ma mb m : MX} {x y z : Str} {i : Int} {lo hi : Option Int}
theorem ev_ixs : ixR (.ok (.im (.at (.str z)))) (.ok (.int i)) = chR z i := rfl
theorem ev_sls (h : z.length ≤ 100000) : slR (.ok (.im (.at (.str z)))) (.ok lo) (.ok hi) = .ok (.im (.str (cutS z lo hi))) := if_pos (by rw [sizeLine_eq]; omega)
theorem ev_lens (h : z.length ≤ 100000) : lenR (.ok (.im (.at (.str z)))) = .ok (.im (.int z.length)) := if_pos (by rw [sizeLine_eq]; omega)
theorem ev_its : itR (.ok (.im (.at (.str z)))) = .ok (signsD z) := rfl
theorem ev_str : eStr m E = strcR (toD (m E)) := rfl
theorem ev_strc (h : i.natAbs.log2 < 1920) : strcR (.ok (.at (.int i))) = .ok (.im (.at (.str (Str.ofString (toString i))))) := if_pos h
theorem ev_str2 {f : Str → Str → R RV} : str2 f (.at (.str x)) (.at (.str y)) = f x y := rfl
theorem ev_sw : swR x y = .ok (.im (.at (.bl (Txt.startswith x y)))) := rfl
theorem ev_findr : findR x y = .ok (.im (.at (.int (Txt.find x y)))) := rfl
theorem ev_part (h : (y.length == 0) = false) (k : x.length ≤ 100000) : partR x y = .ok (.im (.tup [.str (Txt.partition x y).1, .str (Txt.partition x y).2.1, .str (Txt.partition x y).2.2])) := if_pos ⟨h, by rw [sizeLine_eq]; omega⟩
theorem ev_ins : cInS ma mb E = inSR (toD (ma E)) (toD (mb E)) := rfl
theorem ev_nins : cNotInS ma mb E = notR (inSR (toD (ma E)) (toD (mb E))) := rfl
theorem ev_insr {c : Nat} : inSR (.ok (.at (.str ⟨#[c]⟩))) (.ok (.at (.str z))) = .ok (decide (c ∈ z.cps.toList)) := rfl
end
end DL

set_option maxHeartbeats 4000000
/-! ### raised within arguments and tests -/
namespace DL
open PySem PySem.Spec PyProof.Rows L2
def EXA (X : Cx) (C : Ctx) (ρ : Rho) (es : List Expr) (n : Str) : Prop :=
  ∀ σ H, SRel X.K C H σ ρ → ∀ W : WX, Takes X W → (∀ c H', clsOf X.K n = some c → Same H H' → W (.ref c) none σ H') → ∀ Q, wpA X es σ H Q
def ETX (X : Cx) (C : Ctx) (ρ : Rho) (e : Expr) (n : Str) : Prop :=
  ∀ σ H, SRel X.K C H σ ρ → ∀ W : WX, Takes X W → (∀ c H', clsOf X.K n = some c → Same H H' → W (.ref c) none σ H') → ∀ Q, wpT X e σ H Q
def EWX (X : Cx) (C : Ctx) (ρ : Rho) (e : Expr) (n : Str) : Prop :=
  ∀ σ H, SRel X.K C H σ ρ → ∀ W : WX, Takes X W → (∀ c H', clsOf X.K n = some c → Same H H' → W (.ref c) none σ H') → ∀ Q, wpW X e σ H Q
structure RE (X : Cx) (e : Expr) (r : Fr → Option Str) : Prop where
  run : ∀ C ρ n, r (frOf ρ) = some n → EX X C ρ e n
structure RA (X : Cx) (es : List Expr) (r : Fr → Option Str) : Prop where
  run : ∀ C ρ n, r (frOf ρ) = some n → EXA X C ρ es n
structure RT (X : Cx) (e : Expr) (r : Fr → Option Str) : Prop where
  run : ∀ C ρ n, r (frOf ρ) = some n → ETX X C ρ e n
structure RW (X : Cx) (e : Expr) (r : Fr → Option Str) : Prop where
  run : ∀ C ρ n, r (frOf ρ) = some n → EWX X C ρ e n
section
variable {X : Cx} {C : Ctx} {ρ : Rho} {e a b c : Expr} {es rest : List Expr} {m ma mb : MX} {pos p : Pos} {r r1 r2 : Fr → Option Str} {t u : Fr → R Bool}
/-- what an expression raises -/
def rOf (m : MX) : Fr → Option Str := fun E => match m E with
  | .er n => some n
  | _ => none
theorem re_of (h : EM X e m) : RE X e (rOf m) := .mk fun C ρ n q => by
  have h' := h C ρ
  unfold rOf at q
  split at q
  · rename_i n' q1
    rw [q1] at h'
    cases q
    exact h'
  · cases q
def rNil : Fr → Option Str := fun _ => none
/-- the first of the arguments that raises -/
def rCons (r1 : Fr → Option Str) (m : MX) (r2 : Fr → Option Str) : Fr → Option Str := fun E => match r1 E with
  | some n => some n
  | none => (match toD (m E) with
    | .ok _ => r2 E
    | _ => none)
theorem ra_nil : RA X [] rNil := .mk fun C ρ n q => by cases q
theorem ra_cons (h1 : RE X e r1) (h : EM X e m) (h2 : RA X es r2) (hs : starEach (e :: es) X.env = (false, eval e X.env) :: starEach es X.env := by exact se_of rfl) : RA X (e :: es) (rCons r1 m r2) := .mk fun C ρ n q => by
  unfold rCons at q
  split at q
  · rename_i n' q1
    cases q
    exact fun σ H S W tk hW Q => wpA_of (pa_cons pe_wp pa_wp hs) (h1.run C ρ n q1 σ H S W tk hW _)
  · split at q
    · rename_i d q2
      exact fun σ H S W tk hW Q => wpA_of (pa_cons pe_wp pa_wp hs) (h.ee q2 σ H S _ fun v H1 s1 _ => h2.run C ρ n q σ H1 (S.same s1) W tk (fun c H' k s => hW c H' k (s1.trans s)) _)
    · cases q
variable {k n : Nat} {x : Str} {ps : List Str} {f : List D → R Ret}
/-- a call that may raise in its arguments -/
def eCallE (f : List D → R Ret) (ma : Fr → R (List D)) (ra : Fr → Option Str) : MX := fun E => match ra E with
  | some n => .er n
  | none => eCall f ma E
theorem em_callE {mr : Fr → R (List D)} {ra : Fr → Option Str} (F : CalX X.prog X.w X.K X.mg X.base k x ps (spM X.K n f)) (hr : Room k X.A) (h : AM X (e :: es) mr) (hra : RA X (e :: es) ra) (hn : (e :: es).length = n := by rfl) (hg : Gl X x := by rfl) (hdb : (x == ("__debug__" : Str)) = false := by decide)
    (he : starEach (e :: es) X.env = (false, eval e X.env) :: starEach es X.env := by exact se_of rfl) (hpl : (backTo pos (starEach es X.env)).any (·.1) = false := by rfl) : EM X (.Call (.Name x p) (e :: es) [] pos) (eCallE f mr ra) := .mk fun C ρ => by
  unfold eCallE
  split
  · rename_i n' q
    show EX X C ρ _ n'
    intro σ H S W tk hW Q
    obtain ⟨g, fd, CX, hm, hk, hb, F', hx⟩ := F.cal.ex
    exact wpE_of (pe_call (dvs := []) F' hr hg hm hk hb .nil (hx X rfl rfl) pa_wp hdb he hpl) (hra.run C ρ n' q σ H S W tk hW _)
  · exact em_call F hr h hn hg hdb he hpl C ρ
/-- tests -/
theorem rt_cmp {op : CmpOp} (h : RE X a r) (h1 : behindInMarks op b = false := by first | exact nobehind _ (by decide) (by decide) | rfl) : RT X (.Compare a [op] [b] pos) r := .mk fun C ρ n q => by
  intro σ H S W tk hW Q
  refine wpT_of (pt_cmp pc_wp h1) ?_
  intro pins s I
  exact binT pe_wp pe_wp I (R := fun _ _ _ => False) (h.run C ρ n q σ H S W tk hW _) fun _ _ _ _ _ _ _ _ _ z => z.elim
theorem rw_or1 (h : RT X a r) : RW X (.BoolOp .Or [a] pos) r := .mk fun C ρ n q => fun σ H S W tk hW Q => wpW_of (pw_or1 pt_wp) (h.run C ρ n q σ H S W tk hW _)
def rOr (r1 : Fr → Option Str) (t : Fr → R Bool) (r2 : Fr → Option Str) : Fr → Option Str := fun E => match r1 E with
  | some n => some n
  | none => (match t E with
    | .ok false => r2 E
    | _ => none)
theorem rw_or (h1 : RT X a r1) (h : TM X a t) (h2 : RW X (.BoolOp .Or (b :: rest) pos) r2) : RW X (.BoolOp .Or (a :: b :: rest) pos) (rOr r1 t r2) := .mk fun C ρ n q => by
  unfold rOr at q
  split at q
  · rename_i n' q1
    cases q
    exact fun σ H S W tk hW Q => wpW_of (pw_or pt_wp pw_wp) (h1.run C ρ n q1 σ H S W tk hW _)
  · split at q
    · rename_i q2
      exact fun σ H S W tk hW Q => wpW_of (pw_or pt_wp pw_wp) (h.run C ρ false q2 σ H S _ fun H1 s1 => iteF (h2.run C ρ n q σ H1 (S.same s1) W tk (fun c H' k s => hW c H' k (s1.trans s)) _))
    · cases q
theorem RW.rt (h : RW X e r) : RT X e r := .mk fun C ρ n q => fun σ H S W tk hW Q => wpT_of (PW.pt pw_wp) (h.run C ρ n q σ H S W tk hW _)
theorem re_none : RE X e rNil := .mk fun C ρ n q => by cases q
theorem rt_none : RT X e rNil := .mk fun C ρ n q => by cases q
/-- if, the test may raise -/
def sIfE (r : Fr → Option Str) (t : Fr → R Bool) (f g : Fr → O) : Fr → O := fun E => match r E with
  | some n => .er n E
  | none => sIf t f g E
theorem sm_ifE {ts us : List Stmt} {f g : Fr → O} (hr : RT X c r) (h : TM X c t) (h1 : BM X ts f) (h2 : BM X us g) : SM X (.If c ts us pos) (sIfE r t f g) := .mk fun C ρ P ok => by
  unfold sIfE at ok
  split at ok
  · rename_i n q
    intro σ H D S L
    obtain ⟨W, tk, hW⟩ := L.tk
    exact wpS_of (ps_if pt_wp pss_wp pss_wp) (hr.run C ρ n q σ H S W tk (fun c' H1 k s1 => hW n c' ρ σ H1 (ok ρ rfl) k (S.same s1) (vis_same s1)) _)
  · exact sm_if h h1 h2 C ρ P ok
end
end DL

set_option maxHeartbeats 4000000
/-! ### a comprehension that raises; texts split and joined -/
namespace DL
open PySem PySem.Spec PyProof.Rows L2
open PySem.HandSPX
section
variable {M : Model} {A : Around} {E : Value → Shared → Prop} {s : Shared} {base : Heap} {env : Env} {outer : List Env} {L e C : Addr} {Z : Obj → Prop}
/-- noted by this frame, in whatever hand it was -/
theorem looks_anyZ {fl : Value} {Q : Unit → Shared → Prop} (hZ : Steady Z) (hfr : A.frames = some (env :: outer)) (hf : env.frame = some L) (hkb : base.StaysIn s.heap) (hen : base.get? e = none) (hl : s.heap.FunFrames base (env :: outer)) (ht : TracedZ s.heap base e Z fl)
    (hQ : ∀ h', HeldZ base (env :: outer) e Z L h' → s.heap.UpToSlots h' → Q () { s with heap := h' }) : wpAny M A (noteFrame (.ref e) env) Q E s := by
  by_cases c : fl = rawInt L
  · subst c
    exact againZ hf ht (hQ s.heap ⟨hkb, hen, hl, ht⟩ (Heap.UpToSlots.refl _))
  · obtain ⟨oe, vs, T, oT, ts, he, hz, hd, h1, hnT, hTe, hT, hdT, h3⟩ := ht
    unfold noteFrame
    simp only [hf]
    refine wpAny_bind (wpAny_field he hd h1 ?_)
    rw [if_pos (show (Value.ref T != Value.none) = true from by simp)]
    refine wpAny_bind (wpAny_field hT hdT h3 ?_)
    rw [if_neg (show ¬ ((fl == rawInt L) = true) from by simpa using c)]
    refine wpAny_bind (wpAny_setField hT hdT (Array.getElem?_eq_some_iff.mp h3).1 ?_)
    have other : ∀ b, b ≠ T → (s.heap.update T (Obj.mapFields (·.setIfInBounds 3 Value.none))).get? b = s.heap.get? b := fun b hb => Heap.get?_update_other _ _ (Ne.symm hb)
    have nr : ∀ b o, s.heap.get? b = some o → (∀ vs, o.data ≠ .fields vs) → b ≠ T := fun b o hb hnf q => by
      rw [q, hT] at hb; injection hb with hb; subst hb; exact hnf ts hdT
    refine wpAny_entryZ hZ hfr (hl.of_keeps fun b o hb hnf => ⟨o, (other b (nr b o hb hnf)).trans hb, rfl⟩) hf ((other e (Ne.symm hTe)).trans he)
      (fun b o hbo => (other b fun q => by rw [q, hnT] at hbo; cases hbo).trans (hkb b o hbo)) hen hd (Array.getElem?_eq_some_iff.mp h1).1 hz fun h' hN => ?_
    obtain ⟨x1, x2, x3, x4⟩ := hN
    exact hQ h' ⟨x1, hen, x2, x3⟩ fun b o hb hnf => x4 b o ((other b (nr b o hb hnf)).trans hb) hnf
theorem frames_but {h h' : Heap} : ∀ {l : List Env}, h.FunFrames base l → C ∉ frs l → (∀ b, b ≠ C → h'.get? b = h.get? b) → h'.FunFrames base l
  | [], _, _, _ => trivial
  | env :: l, x, n, k => by
    obtain ⟨hk, ⟨L, o, hf, hb, ho, hd⟩, hr⟩ := x
    have nL : L ≠ C := fun z => n (List.mem_filterMap.mpr ⟨env, List.mem_cons_self, by rw [hf, z]⟩)
    exact ⟨hk, ⟨L, o, hf, hb, (k L nL).trans ho, hd⟩, frames_but hr (fun z => n (by
      obtain ⟨e, he, q⟩ := List.mem_filterMap.mp z
      exact List.mem_filterMap.mpr ⟨e, List.mem_cons_of_mem _ he, q⟩)) k⟩
end
abbrev _root_.L2.Cx.blx (X : Cx) (s : Shared) (H : Hp) (scope : Scope) (cenv : Env) (fp : List Addr) (xe : Value → Shared → Prop) : Cx := { X.blk s H scope cenv fp with xe := xe }
section
variable {X : Cx} {pins : List (Addr × Obj)} {σ : L2.St} {H H3 : Hp} {s s3 : Shared}
/-- out of a block, into the def around -/
theorem unblock {W W' : WX} {scope : Scope} {ce : Env} {fp : List Addr} {xe : Value → Shared → Prop} (tk : Takes X W) (hs : X.stack = X.env :: X.outer) (hf : X.env.frame = some X.env.locals) (I3 : Inv X pins σ H3 s3) (hce : ce.frame = X.env.frame) (hcl : ce.locals = s3.heap.objs.size)
    (f3 : ∀ b ∈ fp, FpOk X pins H3 b) (hW : ∀ cls d σ' H', W' cls d σ' H' → W cls d σ H') {u : Value} {s' : Shared} (x : XE (X.blx s3 H3 scope ce fp xe) W' u s') :
    notedBy (model X.prog X.w) X.A ce (fun e s'' => CompFails (model X.prog X.w) X.A X.xe ce e s'') u s' := by
  obtain ⟨a, B, sI, pins', σ', H', cls, d, rfl, I, nb, up, sky, na, os, ag, w⟩ := x
  have I7 : Inv X pins σ H' sI := I3.call' (ch := fp) I.os I.base I.hok I.bare fun b hb => ⟨(f3 b hb).2.2.2.1, (f3 b hb).2.1, (f3 b hb).2.2.2.2.1, (f3 b hb).2.2.2.2.2⟩
  have nC : H' ce.locals = none := I.free
  obtain ⟨m, hn, _⟩ := I.loc
  have hn : sI.heap.Ns ce.locals m := hn
  have fC : FpOk X pins H' ce.locals := I3.fpOk (Nat.le_of_eq hcl.symm) nC
  obtain ⟨c0, c1, c2, c3, c4, c5⟩ := fC
  have cst : ce.locals ∉ frs X.stack := fun z => by
    rcases List.mem_cons.mp (I7.stkSub _ z) with z | z
    · exact c1 z
    · exact c2 z
  have hfr : X.A.frames = some (X.env :: X.outer) := by rw [I3.ok.frames, hs]
  have hnf : noteFrame (.ref a) ce = noteFrame (.ref a) X.env := by unfold PySem.noteFrame PySem.frameOf; rw [hce]
  have fin : ∀ h1, HeldZ B (X.env :: X.outer) a (Zc cls d) X.env.locals h1 → s'.heap.UpToSlots h1 → CompFails (model X.prog X.w) X.A X.xe ce (.ref a) { s' with heap := h1 } := fun h1 hh up1 => by
    have up2 := up.trans up1
    have n2 := up2.ns hn
    refine ⟨m, n2, fun h' m' hn' sb => ?_⟩
    obtain ⟨k1, k2, k3, oe, vs, T, oT, ts, he, hz, hd, h1', hnT, hTe, hT, hdT, h3'⟩ := hh
    obtain ⟨oc, es, ep, hoc, hdc, _⟩ := n2
    have aC : a ≠ ce.locals := fun z => by rw [z, hoc] at he; cases he; rw [hdc] at hd; cases hd
    have TC : T ≠ ce.locals := fun z => by rw [z, hoc] at hT; cases hT; rw [hdc] at hdT; cases hdT
    have sbk : ∀ b, b ≠ ce.locals → h'.get? b = h1.get? b := sb.2
    have gB : ∀ b o, (PySem.W.hideAll B [ce.locals]).get? b = some o → B.get? b = some o := fun b o q => PySem.W.of_hideAll _ q
    have nB : ∀ b o, (PySem.W.hideAll B [ce.locals]).get? b = some o → b ≠ ce.locals := fun b o q z => by
      rw [z, PySem.W.hideAll_none _ List.mem_cons_self] at q; cases q
    have hB : ∀ b, B.get? b = none → (PySem.W.hideAll B [ce.locals]).get? b = none := fun b q => by
      cases r : (PySem.W.hideAll B [ce.locals]).get? b with
      | none => rfl
      | some o => rw [gB b o r] at q; cases q
    have held : HeldZ (PySem.W.hideAll B [ce.locals]) (X.env :: X.outer) a (Zc cls d) X.env.locals h' := by
      refine ⟨fun b o q => (sbk b (nB b o q)).trans (k1 b o (gB b o q)), hB a k2, funFrames_none (frames_but k3 (hs ▸ cst) sbk) fun L hL => hB L ?_, oe, vs, T, oT, ts, (sbk a aC).trans he, hz, hd, h1', hB T hnT, hTe, (sbk T TC).trans hT, hdT, h3'⟩
      exact (k3.mem hL).1
    unfold PySem.passOn
    refine wpAny_bind (wpAny_field ((sbk a aC).trans he) hd h1' ?_)
    rw [if_neg (show ¬ ((Value.ref T == Value.none) = true) from by simp), hce, hf]
    refine wpAny_bind (setFlight_onZ held fun h'' hh'' up'' => ?_)
    refine wpAny_throw (tk _ _ ?_)
    refine ⟨a, PySem.W.hideAll B [ce.locals], { sI with heap := PySem.W.hideAll sI.heap [ce.locals] }, pins, σ, H', cls, d, rfl, ?_, fun b o q hb => ?_, fun b o q hnf => ?_, ?_, na, os, ag, hW _ _ _ _ w⟩
    · exact I7.turned (t' := sI.toks) (it := ce.locals) (fun b o hb q => PySem.W.hideAll_get _ q (by simpa using hb)) c0 c1 c3 c4 c5
    · have q1 := PySem.W.of_hideAll _ q
      have b1 : b ≠ ce.locals := fun z => by rw [z, PySem.W.hideAll_none _ List.mem_cons_self] at q; cases q
      exact PySem.W.hideAll_get _ (nb b o q1 hb) (by simpa using b1)
    · have q1 := PySem.W.of_hideAll _ q
      have b1 : b ≠ ce.locals := fun z => by rw [z, PySem.W.hideAll_none _ List.mem_cons_self] at q; cases q
      obtain ⟨sl, r⟩ := up2 b o q1 hnf
      obtain ⟨sl2, r2⟩ := up'' b _ ((sbk b b1).trans r) hnf
      exact ⟨sl2, r2⟩
    · rw [hs]
      exact .inr (.inr hh'')
  unfold notedBy
  rw [hnf]
  have sky' : Sky B (X.env :: X.outer) a (Zc cls d) ce.locals s'.heap := hs ▸ sky
  rcases sky' with ⟨hB, hn', hl, oe, vs, he, hz, hd, h1⟩ | fl | ⟨k1, k2, k3, k4⟩
  · exact look_newZ Zc.steady hfr hl hf he hB hn' hd h1 hz fin
  · exact looks_onZ Zc.steady hfr hf fl fin
  · exact looks_anyZ Zc.steady hfr hf k1 k2 k3 k4 fin
theorem inv_xe {xe : Value → Shared → Prop} (I : Inv X pins σ H s) : Inv { X with xe := xe } pins σ H s :=
  ⟨⟨I.ok.mod, I.ok.kind, I.ok.glob, I.ok.blt, I.ok.above, I.ok.inj, I.ok.has, I.ok.cab, I.ok.hd, I.ok.frames, I.ok.stk, I.ok.exf, I.ok.bs, I.ok.bsz, I.ok.noex, I.ok.exfs, I.ok.funs, I.ok.frf⟩, I.os, I.bare, I.base, I.loc, I.cell, I.free, I.freeC, I.pin, I.hok, I.len⟩
/-- a comprehension whose parts may raise -/
theorem lcx_core {Q : VK} {elt tg iter : Expr} {ifs : List Expr} {scope : Scope} {own : List (Str × Nat)} {pos pos' : Pos} {wi : TI} {g : TG} {tt : TT} {te : TE} {use : Option (Value → Sem Unit)} {Qf : Value → Shared → Prop} {W : WX} {Wx : Value → Option Addr → Hp → Prop}
    (hc : X.calm = true) (hN : X.N.Nodup) (I : Inv X pins σ H s) (hi : PI X tg iter wi) (ok : BlkOk X.N X.env.scope scope own) (tk : Takes X W) (hWx : ∀ cls d H', Wx cls d H' → W cls d σ H') (hst : X.stack = X.env :: X.outer) (hfr : X.env.frame = some X.env.locals)
    (hg : ∀ (s : Shared) (H : Hp) (C : Addr) (cl : List (Str × Addr)) (fp : List Addr) (xe : Value → Shared → Prop), PG (X.blx s H scope (compEnvC scope cl C X.env) fp xe) tg g)
    (ht : ∀ (s : Shared) (H : Hp) (C : Addr) (cl : List (Str × Addr)) (fp : List Addr) (xe : Value → Shared → Prop), PTs (X.blx s H scope (compEnvC scope cl C X.env) fp xe) ifs tt)
    (he : ∀ (s : Shared) (H : Hp) (C : Addr) (cl : List (Str × Addr)) (fp : List Addr) (xe : Value → Shared → Prop), Takes (X.blx s H scope (compEnvC scope cl C X.env) fp xe) (fun cls d _ H' => Wx cls d H') → PE (X.blx s H scope (compEnvC scope cl C X.env) fp xe) elt te)
    (hs : ∀ x, foldedSetIterable iter X.env x = pure x) (h : tLc wi g tt te (own.map (·.2)) σ H Q)
    (hRR : ∀ D (ce : Env) s' m H', Inv X pins σ H' s' → Q (.ref D) H' → s'.heap.Ns ce.locals m → FpOk X pins H' ce.locals → compEnds (model X.prog X.w) X.A X.xe use Qf (.ref D) ce (.ok .next) s') :
    wpAny (model X.prog X.w) X.A (comprehension (.ListComp elt [⟨tg, iter, ifs, 0⟩] scope pos) scope X.env pos' (newList []) false (eval iter X.env) use) Qf X.xe s := by
  have hfree : ∀ y ∈ scope.names, y.2 = .free → ∃ c, X.env.cells.lookup y.1 = some c := fun y hy e => by
    rcases ok.free y hy e with k | k
    · exact I.ok.has _ (.inl k)
    · exact I.ok.has _ (.inr k)
  refine comprehension_at (use := use) rfl hs (closure_ok hfree) ok.kind (fun y hy e => by rw [ok.uniq y hy, e])
    (thn (hi.run pins s σ H _ I h) fun xv s1 hx => thn hx fun itv s2 h2 => ?_)
  obtain ⟨it, fp, tn, J, H2, e, I2, T, st2, f2, q⟩ := h2
  subst e
  refine wpAny_newObj_type (newEnv_comp ?_) (by show 0 ≤ sizeLine; decide)
  generalize hD : s2.heap.objs.size = D
  have hDn : H2 D = none := I2.hok.fresh (Nat.le_of_eq hD)
  obtain ⟨Wt, ⟨m0, w0⟩, turn⟩ := q D hDn
  generalize hs3 : ({ s2 with heap := s2.heap.push { cls := .type "list", data := .seq ([] : List Value).toArray } } : Shared) = s3
  have I3 : Inv X pins σ (upd H2 D (.lst [])) s3 := by
    rw [← hs3]
    refine I2.laid (t' := s2.toks) (fun b o e => Heap.get?_push_of_some _ e) (Nat.le_of_eq hD) ⟨Nat.zero_le _, [], 0, .nil, ?_⟩
    rw [← hD]
    exact Heap.get?_push_size _ rfl
  have h3 : s3.heap = s2.heap.push { cls := .type "list", data := .seq ([] : List Value).toArray } := by rw [← hs3]
  have f3 : ∀ b ∈ fp, FpOk X pins (upd H2 D (.lst [])) b ∧ b < s3.heap.objs.size := fun b hb => by
    obtain ⟨o, e, _⟩ := T.obj _ _ st2 b hb
    have hlt := Heap.lt_size e
    refine ⟨⟨?_, (f2 b hb).2⟩, by rw [h3, Heap.size_push]; exact Nat.lt_succ_of_lt hlt⟩
    rw [upd_ne (by rw [← hD]; exact Nat.ne_of_lt hlt)]
    exact (f2 b hb).1
  have st3 : tn 0 s3.heap := T.keep _ _ _ st2 fun b _ o e => by rw [h3]; exact Heap.get?_push_of_some _ e
  have I4 := block_start I3 ok hN f3
  have pg := hg s3 (upd H2 D (.lst [])) s3.heap.objs.size (cellsFrom (s3.heap.objs.size + 1) scope.names (cloFrom X.env.cells scope.names [])) fp
  have pt := ht s3 (upd H2 D (.lst [])) s3.heap.objs.size (cellsFrom (s3.heap.objs.size + 1) scope.names (cloFrom X.env.cells scope.names [])) fp
  have pe := he s3 (upd H2 D (.lst [])) s3.heap.objs.size (cellsFrom (s3.heap.objs.size + 1) scope.names (cloFrom X.env.cells scope.names [])) fp
  show codeAny _ _ (.compStart (.ListComp elt [⟨tg, iter, ifs, 0⟩] scope pos) 0 (.ref it) (.ref D) (compEnvC scope (cellsFrom (s3.heap.objs.size + 1) scope.names (cloFrom X.env.cells scope.names [])) s3.heap.objs.size X.env)) (compEnds (model X.prog X.w) X.A X.xe use Qf (.ref D) (compEnvC scope (cellsFrom (s3.heap.objs.size + 1) scope.names (cloFrom X.env.cells scope.names [])) s3.heap.objs.size X.env)) { s3 with heap := pushCells (s3.heap.push { cls := .type "dict", data := .dict #[] }) scope.names }
  have nfp : ∀ b ∈ fp, (upd H2 D (.lst [])) b = none := fun b hb => (f3 b hb).1.1
  generalize hce : compEnvC scope (cellsFrom (s3.heap.objs.size + 1) scope.names (cloFrom X.env.cells scope.names [])) s3.heap.objs.size X.env = ce at I4 pg pt pe ⊢
  have cL : ce.locals = s3.heap.objs.size := by subst hce; rfl
  have cF : ce.frame = X.env.frame := by subst hce; rfl
  generalize hH3 : upd H2 D (.lst []) = H3 at I3 I4 pg pt pe w0 nfp f3
  generalize hs4 : ({ s3 with heap := pushCells (s3.heap.push { cls := .type "dict", data := .dict #[] }) scope.names } : Shared) = s4 at I4 ⊢
  have st4 : tn 0 s4.heap := T.keep _ _ _ st3 fun b _ o e => by rw [← hs4]; exact pushCells_keeps _ _ _ _ (Heap.get?_push_of_some _ e)
  -- what the block's parts may let out
  generalize hxe : (notedBy (model X.prog X.w) X.A ce fun e s' => compEnds (model X.prog X.w) X.A X.xe use Qf (.ref D) ce (.error e) s') = xe
  have hE : ∀ e s', CompFails (model X.prog X.w) X.A X.xe ce e s' → compEnds (model X.prog X.w) X.A X.xe use Qf (.ref D) ce (.error e) s' := fun e s' h => by cases use <;> exact h
  have tkx : Takes (X.blx s3 H3 scope ce fp xe) (fun cls d _ H' => Wx cls d H') := fun u s' x => by
    show xe u s'
    rw [← hxe]
    exact wpAny_mono (unblock tk hst hfr I3 cF cL (fun b hb => (f3 b hb).1) (fun cls d _ H' w => hWx cls d H' w) x) (fun _ s'' h => hE _ _ h) fun e s'' h => hE _ _ h
  have pg := pg xe
  have pt := pt xe
  have pe := pe xe tkx
  have I4 : Inv (X.blx s3 H3 scope ce fp xe) [] (wipe σ (own.map (·.2))) H3 s4 := inv_xe I4
  have stat : ∀ {σ' : L2.St} {H' : Hp} {s' : Shared}, Inv (X.blx s3 H3 scope ce fp xe) [] σ' H' s' → (∀ b ∈ fp, H' b = none) → ∀ b ∈ fp, FpOk (X.blx s3 H3 scope ce fp xe) [] H' b := fun {σ' H' s'} I' hn b hb =>
    ⟨hn b hb, (I'.ok.exf b hb).1, I'.ok.exfs b hb, .inl hb, fun x c e => (I'.ok.exf b hb).2 x c e, fun p hp => absurd (show p ∈ ([] : List (Addr × Obj)) ++ [] from hp) (by simp)⟩
  have loop : codeAny (model X.prog X.w) X.A (.compLoop (.ListComp elt [⟨tg, iter, ifs, 0⟩] scope pos) 0 (.ref it) (.ref D) ce) (compEnds (model X.prog X.w) X.A X.xe use Qf (.ref D) ce) s4 := by
    refine compLoop_any (fun n s' => ∃ i H', Inv (X.blx s3 H3 scope ce fp xe) [] (wipe σ (own.map (·.2))) H' s' ∧ tn i s'.heap ∧ (∀ b ∈ fp, H' b = none) ∧ Wt i n H') ?_ m0 ⟨0, H3, I4, st4, nfp, w0⟩
    rintro n s5 ⟨i, H5, I5, st5, n5, w5⟩
    rw [hxe]
    rcases turn i n H5 w5 with ⟨stop, qq⟩ | ⟨go, Nx, hNx, step⟩
    · refine thnF (T.done (X.blx s3 H3 scope ce fp xe) rfl rfl rfl hc i [] s5 _ H5 (fun _ _ => False) I5 (stat I5 n5) st5 stop) fun r s6 ⟨hr, I6⟩ => ?_
      subst hr
      have I7 : Inv X pins σ H5 s6 := I3.call' (ch := fp) I6.os I6.base I6.hok I6.bare fun b hb => ⟨(f3 b hb).1.2.2.2.1, (f3 b hb).1.2.1, (f3 b hb).1.2.2.2.2.1, (f3 b hb).1.2.2.2.2.2⟩
      have nC : H5 ce.locals = none := I6.free
      obtain ⟨m, hn, _⟩ := I6.loc
      exact hRR D ce s6 m H5 I7 qq hn (I3.fpOk (Nat.le_of_eq cL.symm) nC)
    · refine thnF (T.item (X.blx s3 H3 scope ce fp xe) rfl rfl rfl hc i [] s5 _ H5 (fun _ _ => False) I5 (stat I5 n5) st5 go) fun r s6 ⟨u, hr, h6⟩ => ?_
      subst hr
      refine thnF h6 fun _ s7 ⟨x, H7, I7, r7, y7, st7, n7⟩ => ?_
      have I7' := I7.pinned (stat I7 n7) (T.obj _ _ st7)
      refine thn (pg.run _ s7 _ H7 x u _ I7' r7 (step x H7 y7)) fun _ s8 ⟨σ8, H8, I8, hw8, q8⟩ => ?_
      refine thn (pt.run _ s8 σ8 H8 _ I8 q8) fun b s9 ⟨H9, I9, q9⟩ => ?_
      have fin : ∀ {s' : Shared} {H' : Hp}, Inv (X.blx s3 H3 scope ce fp xe) ([] ++ pinsAt fp s7.heap) σ8 H' s' → Nx H' → ∃ m, m < n ∧ ∃ i H', Inv (X.blx s3 H3 scope ce fp xe) [] (wipe σ (own.map (·.2))) H' s' ∧ tn i s'.heap ∧ (∀ b ∈ fp, H' b = none) ∧ Wt i m H' := fun {s' H'} I' nx => by
        obtain ⟨m', hm, w'⟩ := hNx H' nx
        have pin' : ∀ b ∈ fp, ∀ o, s7.heap.get? b = some o → s'.heap.get? b = some o ∧ H' b = none := fun b hb o e =>
          let z := I'.pin (b, o) (List.mem_append_right _ (List.mem_append_right _ (mem_pinsAt hb e)))
          ⟨z.1, z.2.1⟩
        refine ⟨m', hm, i + 1, H', (I'.unpinned (pins := [])).weak (by rw [← hw8, wipe_length]) (fun j v e => ?_), T.keep _ _ _ st7 fun b hb o e => (pin' b hb o e).1, fun b hb => ?_, w'⟩
        · rw [← hw8] at e
          exact (wipe_some e).1
        · obtain ⟨o, e, _⟩ := T.obj _ _ st7 b hb
          exact (pin' b hb o e).2
      cases b with
      | false =>
        simp only [Bool.false_eq_true, if_false] at q9 ⊢
        exact fin I9 q9
      | true =>
        simp only [if_true] at q9 ⊢
        refine thn (pe.run _ s9 σ8 H9 _ I9 q9) fun z s10 ⟨yv, H10, I10, r10, acc, hD10, hz10, nx⟩ => ?_
        exact L2.app_ok (X := X.blx s3 H3 scope ce fp xe) I10 hD10 hz10 r10 fun s11 I11 => fin I11 nx
  exact codeAny_compStart_list loop (T.self X.A 0 _ _ _ st4 loop)
end
def Blx (X : Cx) (scope : Scope) (X' : Cx) : Prop := ∃ (s : Shared) (H : Hp) (c : Addr) (cl : List (Str × Addr)) (fp : List Addr) (xe : Value → Shared → Prop), X' = X.blx s H scope (compEnvC scope cl c X.env) fp xe
theorem Blk.blx {X : Cx} {scope : Scope} {X' : Cx} (h : Blk X scope X') : Blx X scope X' := by
  obtain ⟨s, H, c, cl, fp, e⟩ := h
  exact ⟨s, H, c, cl, fp, fun _ _ => False, e⟩
def gGx (X : Cx) (scope : Scope) (tg : Expr) : TG := fun v σ H Q => ∃ (C : Ctx) (ρ : Rho) (d : D) (ρg : Rho) (L : List Nat), SRel X.K C H σ ρ ∧ Rep X.K (vis C (ows ρ) H) v d ∧ (∀ X', Blx X scope X' → GT X' C ρ tg d ρg L) ∧
  ∀ σ', SRel X.K C H σ' ρg → Same (vis C (ows ρ) H) (vis C (ows ρg) H) → Agr L σ σ' → Q σ' H
def gTx (X : Cx) (scope : Scope) (ifs : List Expr) : TT := fun σ H Q => ∃ (C : Ctx) (ρ : Rho) (c : Bool), SRel X.K C H σ ρ ∧ (∀ X', Blx X scope X' → ETs X' C ρ ifs c) ∧ ∀ H', Same H H' → Q c H'
def gEx (X : Cx) (scope : Scope) (elt : Expr) (n : Str) (H0 : Hp) : TE := fun σ H Q =>
  (∃ (C : Ctx) (ρ : Rho) (d : D), SRel X.K C H σ ρ ∧ (∀ X', Blx X scope X' → EE X' C ρ elt d) ∧ ∀ v H', Same H H' → Rep X.K (vis C (ows ρ) H') v d → Q v H') ∨
  ∃ (C : Ctx) (ρ : Rho), SRel X.K C H σ ρ ∧ (∀ X', Blx X scope X' → EX X' C ρ elt n) ∧ Same H0 H
/-- what lets an exception of the class n out -/
def Outs (K : PySem.W.Frag) (n : Str) (H0 : Hp) : Value → Option Addr → Hp → Prop := fun cls d H' => ∃ c, cls = .ref c ∧ d = none ∧ clsOf K n = some c ∧ Same H0 H'
section
variable {X : Cx} {C : Ctx} {ρ ρw : Rho} {e elt tg iter : Expr} {ifs : List Expr} {scope : Scope} {own : List (Str × Nat)} {pos spos py : Pos} {P : Post} {n : Str} {H0 : Hp}
theorem gGx_ok (s : Shared) (H : Hp) (c : Addr) (cl : List (Str × Addr)) (fp : List Addr) (xe : Value → Shared → Prop) : PG (X.blx s H scope (compEnvC scope cl c X.env) fp xe) tg (gGx X scope tg) := ⟨fun pins s' σ H' v u Q I r ⟨C, ρ, d, ρg, L, S, rr, hg, q⟩ => hg _ ⟨s, H, c, cl, fp, xe, rfl⟩ σ H' v S rr Q q pins s' u I r⟩
theorem gTx_ok (s : Shared) (H : Hp) (c : Addr) (cl : List (Str × Addr)) (fp : List Addr) (xe : Value → Shared → Prop) : PTs (X.blx s H scope (compEnvC scope cl c X.env) fp xe) ifs (gTx X scope ifs) := ⟨fun pins s' σ H' Q I ⟨C, ρ, k, S, hg, q⟩ => hg _ ⟨s, H, c, cl, fp, xe, rfl⟩ σ H' S Q q pins s' I⟩
theorem gEx_ok (s : Shared) (H : Hp) (c : Addr) (cl : List (Str × Addr)) (fp : List Addr) (xe : Value → Shared → Prop) (tk : Takes (X.blx s H scope (compEnvC scope cl c X.env) fp xe) (fun cls d _ H' => Outs X.K n H0 cls d H')) :
    PE (X.blx s H scope (compEnvC scope cl c X.env) fp xe) elt (gEx X scope elt n H0) := ⟨fun pins s' σ H' Q I h => by
  rcases h with ⟨C, ρ, d, S, hg, q⟩ | ⟨C, ρ, S, hg, s0⟩
  · exact hg _ ⟨s, H, c, cl, fp, xe, rfl⟩ σ H' S Q q pins s' I
  · exact hg _ ⟨s, H, c, cl, fp, xe, rfl⟩ σ H' S _ tk (fun c' H'' k s1 => ⟨c', rfl, rfl, k, s0.trans s1⟩) Q pins s' I⟩
/-- the parts: in order before the k-th item, and the k-th raises -/
def LcOkX {β : Type} (X : Cx) (scope : Scope) (own : List (Str × Nat)) (tg : Expr) (ifs : List Expr) (elt : Expr) (ρw : Rho) (xs : List β) (k : Nat) (n : Str) (enc : β → D) (p : β → Bool) (f : β → D) : Prop :=
  ∀ (C : Ctx) (i : Nat) (x : β), i ≤ k → xs[i]? = some x → ∃ ρg L, (∀ X', Blx X scope X' → GT X' C ρw tg (enc x) ρg L) ∧ ows ρg = ows ρw ∧ (∀ j ∈ L, j ∈ own.map (·.2)) ∧ (∀ X', Blx X scope X' → ETs X' C ρg ifs (p x)) ∧
    (i < k → p x = true → ∀ X', Blx X scope X' → EE X' C ρg elt (f x)) ∧ (i = k → p x = true ∧ ∀ X', Blx X scope X' → EX X' C ρg elt n)
theorem lcx_reading {β : Type} {xs : List β} {k : Nat} {enc : β → D} {p : β → Bool} {f : β → D} {σ : L2.St} {H : Hp} (S : SRel X.K C H σ ρ) (hi : EI X C ρ tg iter (xs.map enc)) (hw : wipeR ρ (own.map (·.2)) = ρw) (how : ows ρw = ows ρ) (hz : xs.length ≤ sizeLine) (hk : k < xs.length)
    (hs : LcOkX X scope own tg ifs elt ρw xs k n enc p f) {Q : VK} :
    tLc (wpI X tg iter) (gGx X scope tg) (gTx X scope ifs) (gEx X scope elt n H) (own.map (·.2)) σ H Q := by
  refine hi σ H S _ fun J H1 s1 y1 D nD => ?_
  have S1 := S.same s1
  obtain ⟨Sh, vh⟩ := S1.hide (o := .lst []) nD
  have mD : D ∈ (D :: C.hid) := List.mem_cons_self
  have Sw : SRel X.K { C with hid := D :: C.hid } (upd H1 D (.lst [])) (wipe σ (own.map (·.2))) ρw := hw ▸ Sh.wiped _
  refine ⟨fun i m H' => i + m = k ∧ ∃ acc, H' D = some (.lst acc) ∧ acc.length ≤ i ∧ SRel X.K { C with hid := D :: C.hid } H' (wipe σ (own.map (·.2))) ρw ∧ Same (vis C (ows ρ) H1) (vis { C with hid := D :: C.hid } (ows ρw) H') ∧ Same H1 H',
    ⟨k, by omega, [], upd_same, Nat.le_refl _, Sw, by rw [how]; exact vh, same_upd nD⟩, ?_⟩
  rintro i m H2 ⟨em, acc, hD, la, S2, v2, h12⟩
  have hlt : i < xs.length := by omega
  have hlt' : i < (xs.map enc).length := by rw [List.length_map]; exact hlt
  have hx : xs[i]? = some xs[i] := List.getElem?_eq_getElem hlt
  obtain ⟨ρg, L, hG, eg, hL, hT, hE, hX⟩ := hs { C with hid := D :: C.hid } i xs[i] (by omega) hx
  refine .inr ⟨y1.go _ _ _ i (S2.lat v2) hlt', fun H' => i < k ∧ ∃ acc, H' D = some (.lst acc) ∧ acc.length ≤ i + 1 ∧ SRel X.K { C with hid := D :: C.hid } H' (wipe σ (own.map (·.2))) ρw ∧ Same (vis C (ows ρ) H1) (vis { C with hid := D :: C.hid } (ows ρw) H') ∧ Same H1 H', fun H' ⟨ik, acc', w⟩ => ⟨m - 1, by omega, by omega, acc', w⟩, fun x H3 y => ?_⟩
  obtain ⟨d, hd', s3, r3⟩ := y1.yl _ _ _ i x H3 (S2.lat v2) hlt' y
  have ed : d = enc xs[i] := by
    rw [List.getElem?_map, hx] at hd'
    exact (Option.some.inj hd').symm
  subst ed
  refine ⟨_, ρw, enc xs[i], ρg, L, S2.same s3, r3, hG, fun σ4 S4 s4 k4 => ⟨wipe_again k4.1 hL k4.2, ?_⟩⟩
  refine ⟨_, ρg, p xs[i], S4, hT, fun H5 s5 => ?_⟩
  have w5 : SRel X.K { C with hid := D :: C.hid } H5 (wipe σ (own.map (·.2))) ρw := (S2.same s3).same s5
  have vv5 : Same (vis { C with hid := D :: C.hid } (ows ρw) H2) (vis { C with hid := D :: C.hid } (ows ρw) H5) := vis_same (s3.trans s5)
  by_cases ik : i = k
  · obtain ⟨hp, hX⟩ := hX ik
    rw [hp]
    exact iteT (.inr ⟨_, ρg, S4.same s5, hX, s1.trans (h12.trans (s3.trans s5))⟩)
  have ik' : i < k := by omega
  cases hp : p xs[i] with
  | true =>
    refine iteT (.inl ⟨_, ρg, f xs[i], S4.same s5, hE ik' hp, fun v H6 s6 r6 => ?_⟩)
    have s26 := (s3.trans s5).trans s6
    have b1 : atT (H6 D) = false := by rw [s26 _ _ hD]; rfl
    refine ⟨acc, s26 _ _ hD, by omega, ik', acc ++ [v], upd_same, by rw [List.length_append]; show acc.length + 1 ≤ i + 1; omega, (S2.same s26).updHid mD b1 rfl, ?_, ?_⟩
    · rw [vis_hid mD b1 rfl]
      exact v2.trans (vis_same s26)
    · intro b u hb
      have nb : b ≠ D := ne_of_none hb nD
      rw [upd_ne nb]
      exact s26 _ _ (h12 _ _ hb)
  | false =>
    exact iteF ⟨ik', acc, (s3.trans s5) _ _ hD, by omega, w5, v2.trans vv5, h12.trans (s3.trans s5)⟩
theorem ex_lc {β : Type} {xs : List β} {k : Nat} {enc : β → D} {p : β → Bool} {f : β → D} (hi : EI X C ρ tg iter (xs.map enc)) (hs : LcOkX X scope own tg ifs elt ρw xs k n enc p f) (hw : wipeR ρ (own.map (·.2)) = ρw) (how : ows ρw = ows ρ) (hz : xs.length ≤ sizeLine) (hk : k < xs.length)
    (ok : BlkOk X.N X.env.scope scope own) (hN : X.N.Nodup) (hst : X.stack = X.env :: X.outer) (hfr : X.env.frame = some X.env.locals) (hc : X.calm = true := by rfl) (hf : ∀ x, foldedSetIterable iter X.env x = pure x := by intro _; rfl) : EX X C ρ (.ListComp elt [⟨tg, iter, ifs, 0⟩] scope pos) n := fun σ H S W tk hW Q pins s I => by
  rw [eval_ListComp]
  exact lcx_core hc hN I pi_wp ok tk (fun cls d H' ⟨c, e1, e2, q, s1⟩ => e1 ▸ e2 ▸ hW c H' q s1) hst hfr gGx_ok gTx_ok gEx_ok hf (lcx_reading (Q := fun _ _ => False) S hi hw how hz hk hs) fun _ _ _ _ _ _ q => q.elim
theorem ws_setLcX {β : Type} {y : Str} {xs : List β} {k : Nat} {enc : β → D} {p : β → Bool} {f : β → D} (hi : EI X C ρ tg iter (xs.map enc)) (hs : LcOkX X scope own tg ifs elt ρw xs k n enc p f) (h : P.er n ρ) (hw : wipeR ρ (own.map (·.2)) = ρw) (how : ows ρw = ows ρ) (hz : xs.length ≤ sizeLine) (hk : k < xs.length)
    (ok : BlkOk X.N X.env.scope scope own) (hN : X.N.Nodup) (hst : X.stack = X.env :: X.outer) (hfr : X.env.frame = some X.env.locals) (hsw : swapsWith (.ListComp elt [⟨tg, iter, ifs, 0⟩] scope pos) (some (.Name y py)) spos.line X.env = pure true := by exact sw_true rfl rfl rfl (by decide +kernel))
    (hc : X.calm = true := by rfl) (hf : ∀ x, foldedSetIterable iter X.env x = pure x := by intro _; rfl) : WS X C ρ (.Assign [.Name y py] (.ListComp elt [⟨tg, iter, ifs, 0⟩] scope pos) spos) P := fun σ H D S L pins s I => by
  obtain ⟨W, tk, hW⟩ := L.tk
  rw [exec_Assign_Name_used _ _ _ _ hsw]
  refine wpAny_bind (wpAny_standAt (wpAny_bind ?_))
  show wpAny _ X.A (do let _ ← comprehension (.ListComp elt [⟨tg, iter, ifs, 0⟩] scope pos) scope X.env (firstIterPos [⟨tg, iter, ifs, 0⟩] pos) (newList []) false (eval iter X.env) (some (assign (.Name y py) X.env))) _ _ s
  refine wpAny_bind (thn (Q := fun _ _ => False) (lcx_core (Q := fun _ _ => False) hc hN I pi_wp ok tk (fun cls d H' ⟨c, e1, e2, q, s1⟩ => e1 ▸ e2 ▸ hW n c ρ σ H' h q (S.same s1) (vis_same s1)) hst hfr gGx_ok gTx_ok gEx_ok hf (lcx_reading S hi hw how hz hk hs) fun _ _ _ _ _ _ q => q.elim) fun _ _ q => q.elim)
end
end DL

set_option maxHeartbeats 4000000
/-! ### raising comprehensions, split, join: mirrors -/
namespace DL
open PySem PySem.Spec PyProof.Rows L2
def lcTE (b : R Bool) (v : R RV) : R (Option D) := match b with
  | .ok true => (match v with
    | .er n => .er n
    | v => (match toD v with
      | .ok x => .ok (some x)
      | _ => .bad))
  | .ok false => .ok none
  | _ => .bad
def lc1E (g : D → R (List (Nat × D))) (t : Fr → R Bool) (m : MX) (E : Fr) (d : D) : R (Option D) := match g d with
  | .ok ss => lcTE (t (setsF E ss)) (m (setsF E ss))
  | _ => .bad
def optRE (x : R (Option D)) (l : R (List D)) : R (List D) := match x with
  | .ok (some d) => (match l with
    | .ok ds => .ok (d :: ds)
    | r => r)
  | .ok none => l
  | .er n => .er n
  | .bad => .bad
def lcNE (h : D → R (Option D)) : List D → R (List D)
  | [] => .ok []
  | d :: ds => optRE (h d) (lcNE h ds)
def lstRE : R (List D) → R RV
  | .ok ds => .ok (.fr ds)
  | .er n => .er n
  | .bad => .bad
def lcGoE (mi : R (List D)) (fre : Bool) (h : D → R (Option D)) : R RV := match mi with
  | .ok ds => if fre = true ∧ ds.length ≤ sizeLine then lstRE (lcNE h ds) else .bad
  | _ => .bad
def eLcE (js : List Nat) (g : D → R (List (Nat × D))) (mi : Fr → R (List D)) (t : Fr → R Bool) (m : MX) : MX := fun E => lcGoE (mi E) (freeS E js) (lc1E g t m (wipeF E js))
theorem lc1E_ok {g : D → R (List (Nat × D))} {t : Fr → R Bool} {m : MX} {E : Fr} {d : D} {x : Option D} (q : lc1E g t m E d = .ok x) : lc1 g t m E d = .ok x := by
  unfold lc1E at q
  unfold lc1
  split at q
  · rename_i ss e
    try rw [e]
    show lc1.lcT _ _ = _
    unfold lcTE at q
    split at q
    · rename_i e1
      try rw [e1]
      unfold lc1.lcT
      split at q
      · cases q
      · split at q
        · rename_i e3
          try rw [e3]
          exact q
        · cases q
    · rename_i e1
      rw [e1]
      exact q
    · cases q
  · cases q
theorem lcNE_ok {g : D → R (List (Nat × D))} {t : Fr → R Bool} {m : MX} {E : Fr} : ∀ {ds vs : List D}, lcNE (lc1E g t m E) ds = .ok vs → lcN (lc1 g t m E) ds = .ok vs
  | [], vs, q => q
  | d :: ds, vs, q => by
    rw [lcNE] at q
    rw [lcN]
    cases e : lc1E g t m E d with
    | ok x =>
      rw [lc1E_ok e]
      rw [e] at q
      cases x with
      | some v =>
        cases e2 : lcNE (lc1E g t m E) ds with
        | ok ws =>
          rw [lcNE_ok e2]
          rw [e2] at q
          exact q
        | er n => rw [e2] at q; cases q
        | bad => rw [e2] at q; cases q
      | none => exact lcNE_ok (ds := ds) q
    | er n => rw [e] at q; cases q
    | bad => rw [e] at q; cases q
theorem lcNE_er {h : D → R (Option D)} {n : Str} : ∀ {ds : List D}, lcNE h ds = .er n → ∃ (k : Nat) (x : D), ds[k]? = some x ∧ h x = .er n ∧ ∀ i y, i < k → ds[i]? = some y → ∃ o, h y = .ok o
  | [], q => by cases q
  | d :: ds, q => by
    rw [lcNE] at q
    cases e : h d with
    | ok x =>
      rw [e] at q
      have q' : lcNE h ds = .er n := by
        cases x with
        | some v =>
          cases e2 : lcNE h ds with
          | ok ws => rw [e2] at q; cases q
          | er n' => rw [e2] at q; exact q
          | bad => rw [e2] at q; cases q
        | none => exact q
      obtain ⟨k, x', k1, k2, k3⟩ := lcNE_er q'
      refine ⟨k + 1, x', by simpa using k1, k2, fun i y hi hy => ?_⟩
      cases i with
      | zero =>
        have : d = y := by simpa using hy
        exact ⟨x, this ▸ e⟩
      | succ i => exact k3 i y (by omega) (by simpa using hy)
    | er n' =>
      rw [e] at q
      cases q
      exact ⟨0, d, rfl, e, fun i y hi => absurd hi (Nat.not_lt_zero _)⟩
    | bad => rw [e] at q; cases q
section
variable {X : Cx} {C : Ctx} {ρ : Rho} {e a b c tg iter elt : Expr} {ifs : List Expr} {es : List Expr} {m ma mb mc : MX} {d : D} {ds : List D} {pos p spos py apos : Pos} {t : Fr → R Bool} {P : Post} {scope : Scope} {own : List (Str × Nat)} {n : Str}
structure LcMx (X : Cx) (scope : Scope) (own : List (Str × Nat)) (tg : Expr) (ifs : List Expr) (elt : Expr) (g : D → R (List (Nat × D))) (t : Fr → R Bool) (m : MX) : Prop where
  gt : ∃ L, (∀ j ∈ L, j ∈ own.map (·.2)) ∧ ∀ X', Blx X scope X' → GM X' tg g L
  ts : ∀ X', Blx X scope X' → TsM X' ifs t
  el : ∀ X', Blx X scope X' → EM X' elt m
theorem LcMx.lcm {g : D → R (List (Nat × D))} (h : LcMx X scope own tg ifs elt g t m) : LcM X scope own tg ifs elt g t m :=
  ⟨let ⟨L, h1, h2⟩ := h.gt; ⟨L, h1, fun X' b => h2 X' b.blx⟩, fun X' b => h.ts X' b.blx, fun X' b => h.el X' b.blx⟩
theorem lcx_ok {g : D → R (List (Nat × D))} (h : LcMx X scope own tg ifs elt g t m) (nx : ∃ s H c cl fp xe, Blx X scope (X.blx s H scope (compEnvC scope cl c X.env) fp xe)) {k : Nat} {x0 : D} (hf : freeS (frOf ρ) (own.map (·.2)) = true) (hx0 : ds[k]? = some x0)
    (q0 : lc1E g t m (wipeF (frOf ρ) (own.map (·.2))) x0 = .er n) (q : ∀ i y, i < k → ds[i]? = some y → ∃ o, lc1E g t m (wipeF (frOf ρ) (own.map (·.2))) y = .ok o) :
    LcOkX X scope own tg ifs elt (wipeR ρ (own.map (·.2))) ds k n (fun d => d) (fun d => match lc1E g t m (wipeF (frOf ρ) (own.map (·.2))) d with
      | .ok none => false
      | _ => true) (giveD (lc1 g t m (wipeF (frOf ρ) (own.map (·.2))))) := fun C i x hik hx => by
  obtain ⟨L, hL, hg⟩ := h.gt
  obtain ⟨s, H, cc, cl, fp, xe, blk⟩ := nx
  have go : ∃ ss, g x = .ok ss := by
    have : lc1E g t m (wipeF (frOf ρ) (own.map (·.2))) x ≠ .bad := by
      rcases Nat.lt_or_eq_of_le hik with z | z
      · obtain ⟨o, e⟩ := q i x z hx
        rw [e]; intro z; cases z
      · subst z
        rw [hx0] at hx
        cases hx
        rw [q0]; intro z; cases z
    cases e : g x with
    | ok ss => exact ⟨ss, rfl⟩
    | er n' => exact absurd (by unfold lc1E; rw [e]) this
    | bad => exact absurd (by unfold lc1E; rw [e]) this
  obtain ⟨ss, q1⟩ := go
  have hq := (hg _ blk C ρ x ss q1).2
  obtain ⟨o1, o2⟩ := ows_wipeR hf
  have fr : frOf (setsR (wipeR ρ (own.map (·.2))) ss) = setsF (wipeF (frOf ρ) (own.map (·.2))) ss := by rw [frOf_sets, frOf_wipe]
  have e1 : lc1E g t m (wipeF (frOf ρ) (own.map (·.2))) x = lcTE (t (setsF (wipeF (frOf ρ) (own.map (·.2))) ss)) (m (setsF (wipeF (frOf ρ) (own.map (·.2))) ss)) := by unfold lc1E; rw [q1]
  have e2 : lc1 g t m (wipeF (frOf ρ) (own.map (·.2))) x = lc1.lcT (t (setsF (wipeF (frOf ρ) (own.map (·.2))) ss)) (toD (m (setsF (wipeF (frOf ρ) (own.map (·.2))) ss))) := by unfold lc1; rw [q1]
  refine ⟨setsR (wipeR ρ (own.map (·.2))) ss, L, fun X' b => (hg X' b C _ x ss q1).1, ows_setsR (L := own.map (·.2)) (fun q hq' => hL _ (hq q hq')) o2, hL, fun X' b => ?_, fun hlt hp X' b => ?_, fun hk => ?_⟩
  · refine h.ts X' b C _ _ ?_
    rw [fr]
    dsimp only
    rcases Nat.lt_or_eq_of_le hik with z | z
    · obtain ⟨o, e⟩ := q i x z hx
      rw [e]
      rw [e1] at e
      unfold lcTE at e
      split at e
      · rename_i q2
        split at e
        · cases e
        · split at e
          · cases e; exact q2
          · cases e
      · rename_i q2
        cases e; exact q2
      · cases e
    · subst z
      rw [hx0] at hx
      cases hx
      rw [q0]
      rw [e1] at q0
      unfold lcTE at q0
      split at q0
      · rename_i q2; exact q2
      · cases q0
      · cases q0
  · obtain ⟨o, e⟩ := q i x hlt hx
    dsimp only at hp
    rw [e] at hp
    cases o with
    | none => cases hp
    | some v =>
      have e' := lc1E_ok e
      unfold giveD
      rw [e']
      refine (h.el X' b).ee ?_
      rw [fr]
      rw [e2] at e'
      unfold lc1.lcT at e'
      split at e'
      · split at e'
        · rename_i q3
          cases e'
          exact q3
        · cases e'
      · cases e'
      · cases e'
  · subst hk
    rw [hx0] at hx
    cases hx
    refine ⟨by dsimp only; rw [q0], fun X' b => ?_⟩
    have hm := h.el X' b C (setsR (wipeR ρ (own.map (·.2))) ss)
    rw [fr] at hm
    rw [e1] at q0
    unfold lcTE at q0
    split at q0
    · split at q0
      · rename_i n' e3
        cases q0
        rw [e3] at hm
        exact hm
      · split at q0 <;> cases q0
    · cases q0
    · cases q0
theorem em_lcE {g : D → R (List (Nat × D))} {mi : Fr → R (List D)} (hi : IM X tg iter mi) (h : LcMx X scope own tg ifs elt g t m) (ok : BlkOk X.N X.env.scope scope own) (hN : X.N.Nodup) (hc : X.calm = true := by rfl) (hf : ∀ x, foldedSetIterable iter X.env x = pure x := by intro _; rfl) (hst : X.stack = X.env :: X.outer := by rfl) (hfr : X.env.frame = some X.env.locals := by rfl) :
    EM X (.ListComp elt [⟨tg, iter, ifs, 0⟩] scope pos) (eLcE (own.map (·.2)) g mi t m) := .mk fun C ρ => by
  have h0 := em_lc (pos := pos) hi h.lcm ok hN hc hf C ρ
  unfold eLcE lcGoE
  unfold eLc lcGo at h0
  split
  · rename_i ds q
    rw [q] at h0
    dsimp only at h0
    split
    · rename_i hz
      rw [if_pos hz] at h0
      cases q2 : lcNE (lc1E g t m (wipeF (frOf ρ) (own.map (·.2)))) ds with
      | ok vs =>
        rw [lcNE_ok q2] at h0
        exact h0
      | er n =>
        obtain ⟨k, x, k1, k2, k3⟩ := lcNE_er q2
        exact ex_lc (enc := fun d : D => d) (xs := ds) (by rw [List.map_id']; exact hi C ρ ds q) (lcx_ok h ⟨X.s_0, (fun _ => none), X.env.locals, [], [], fun _ _ => False, X.s_0, (fun _ => none), X.env.locals, [], [], fun _ _ => False, rfl⟩ hz.1 k1 k2 k3) rfl (ows_wipeR hz.1).1 hz.2 (List.getElem?_eq_some_iff.mp k1).1 ok hN hst hfr hc hf
      | bad => trivial
    · trivial
  · trivial
theorem sm_setLcE (i : Nat) {y : Str} {g : D → R (List (Nat × D))} {mi : Fr → R (List D)} (hi : IM X tg iter mi) (h : LcMx X scope own tg ifs elt g t m) (ok : BlkOk X.N X.env.scope scope own) (hN : X.N.Nodup) (hy : X.N[i]? = some y := by rfl) (hyl : X.env.scope.names.lookup y = some .local := by rfl)
    (hsw : swapsWith (.ListComp elt [⟨tg, iter, ifs, 0⟩] scope pos) (some (.Name y py)) spos.line X.env = pure true := by exact sw_true rfl rfl rfl (by decide +kernel)) (hc : X.calm = true := by rfl) (hf : ∀ x, foldedSetIterable iter X.env x = pure x := by intro _; rfl) (hst : X.stack = X.env :: X.outer := by rfl) (hfr : X.env.frame = some X.env.locals := by rfl) :
    SM X (.Assign [.Name y py] (.ListComp elt [⟨tg, iter, ifs, 0⟩] scope pos) spos) (sSet i (eLcE (own.map (·.2)) g mi t m)) := .mk fun C ρ P okk => by
  have h0 := sm_setLc (py := py) (spos := spos) (pos := pos) i hi h.lcm ok hN hy hyl hsw hc hf C ρ P
  unfold sSet eLcE lcGoE at okk
  unfold sSet eLc lcGo at h0
  split at okk
  · rename_i ds q
    rw [q] at h0
    dsimp only at h0
    split at okk
    · rename_i hz
      rw [if_pos hz] at h0
      cases q2 : lcNE (lc1E g t m (wipeF (frOf ρ) (own.map (·.2)))) ds with
      | ok vs =>
        rw [lcNE_ok q2] at h0
        rw [q2] at okk
        exact h0 okk
      | er n =>
        rw [q2] at okk
        obtain ⟨k, x, k1, k2, k3⟩ := lcNE_er q2
        exact ws_setLcX (enc := fun d : D => d) (xs := ds) (by rw [List.map_id']; exact hi C ρ ds q) (lcx_ok h ⟨X.s_0, (fun _ => none), X.env.locals, [], [], fun _ _ => False, X.s_0, (fun _ => none), X.env.locals, [], [], fun _ _ => False, rfl⟩ hz.1 k1 k2 k3) (okk ρ rfl) rfl (ows_wipeR hz.1).1 hz.2 (List.getElem?_eq_some_iff.mp k1).1 ok hN hst hfr hsw hc hf
      | bad => rw [q2] at okk; exact okk.elim
    · exact okk.elim
  · exact okk.elim
/-! ### split, join -/
theorem reps_ofStrs {K : PySem.W.Frag} {H : Hp} : ∀ ys : List Str, Reps K H (ys.map V.str) (ys.map D.str)
  | [] => .nil
  | y :: ys => .cons (.at _) (reps_ofStrs ys)
theorem ef_split {x y : Str} (ha : EE X C ρ a (.str x)) (hb : EE X C ρ b (.str y)) (hy : (y.length == 0) = false) (hz : x.length + 2 ≤ sizeLine) (hs : starEach [b] X.env = [(false, eval b X.env)] := by rfl) (hbase : attributeBase a "split" X.env (eval a X.env) = eval a X.env := by rfl) (hline : (apos.endLine == pos.line) = true := by rfl) :
    EF X C ρ (.Call (.Attribute a "split" apos) [b] [] pos) ((Txt.split x y).map D.str) := fun σ H S Q q =>
  wpE_of (pe_m1 PySem.F.slot_str_split PySem.F.type_str_split mt_split pe_wp pe_wp hs hbase hline) (ha σ H S _ fun v H1 s1 r1 => by
    cases r1
    exact ⟨⟨x, rfl⟩, hb σ H1 (S.same s1) _ fun u H2 s2 r2 => by
      cases r2
      exact ⟨x, y, rfl, rfl, hy, hz, fun p np => q p _ _ ((s1.trans s2).free np) ((s1.trans s2).trans (same_upd np)) upd_same (reps_ofStrs _)⟩⟩)
theorem ee_join {z : Str} {ys : List Str} (ha : EE X C ρ a (.str z)) (hb : EL X C ρ b (ys.map D.str)) (hz : (ys.map (·.length)).sum + ys.length * z.length ≤ 16777216) (hs : starEach [b] X.env = [(false, eval b X.env)] := by rfl) (hbase : attributeBase a "join" X.env (eval a X.env) = eval a X.env := by rfl) (hline : (apos.endLine == pos.line) = true := by rfl) :
    EE X C ρ (.Call (.Attribute a "join" apos) [b] [] pos) (.str (Txt.join z ys)) := fun σ H S Q q =>
  wpE_of (pe_m1 PySem.F.slot_str_join PySem.F.type_str_join mt_join pe_wp pe_wp hs hbase hline) (ha σ H S _ fun v H1 s1 r1 => by
    cases r1
    exact ⟨⟨z, rfl⟩, hb σ H1 (S.same s1) _ fun p xs H2 s2 sq rs => by
      have e1 := reps_strs rs
      subst e1
      exact ⟨z, p, ys, rfl, rfl, .inl sq, hz, q _ H2 (s1.trans s2) (.at _)⟩⟩)
def splR (x y : Str) : R RV := if (y.length == 0) = false ∧ x.length + 2 ≤ sizeLine then .ok (.fr ((Txt.split x y).map D.str)) else .bad
abbrev eSplit := e2 (str2 splR)
theorem em_split (ha : EM X a ma) (hb : EM X b mb) (hs : starEach [b] X.env = [(false, eval b X.env)] := by exact se_of rfl) (hbase : attributeBase a "split" X.env (eval a X.env) = eval a X.env := by rfl) (hline : (apos.endLine == pos.line) = true := by rfl) : EM X (.Call (.Attribute a "split" apos) [b] [] pos) (eSplit ma mb) := em_str2 ha hb fun C ρ x y h1 h2 => by
  unfold splR
  split
  · rename_i z
    exact ef_split h1 h2 z.1 z.2 hs hbase hline
  · trivial
def joinR (x : R D) (l : R (List D)) : R RV := match x, l with
  | .ok (.at (.str z)), .ok ds => (match strsOf ds with
    | some ys => if (ys.map (·.length)).sum + ys.length * z.length ≤ 16777216 then .ok (.im (.str (Txt.join z ys))) else .bad
    | none => .bad)
  | _, _ => .bad
def eJoin (ma mb : MX) : MX := fun E => joinR (toD (ma E)) (toL (mb E))
theorem em_join (ha : EM X a ma) (hb : EM X b mb) (hs : starEach [b] X.env = [(false, eval b X.env)] := by exact se_of rfl) (hbase : attributeBase a "join" X.env (eval a X.env) = eval a X.env := by rfl) (hline : (apos.endLine == pos.line) = true := by rfl) : EM X (.Call (.Attribute a "join" apos) [b] [] pos) (eJoin ma mb) := .mk fun C ρ => by
  unfold eJoin joinR
  split
  · rename_i z ds q1 q2
    split
    · rename_i ys q3
      split
      · exact ee_join (ha.ee q1) (strsOf_eq q3 ▸ hb.el q2) (by assumption) hs hbase hline
      · trivial
    · trivial
  · trivial
end
end DL

/-! ### raised within a tuple's display -/
namespace DL
open PySem PySem.Spec PyProof.Rows L2
section
variable {X : Cx} {C : Ctx} {ρ : Rho} {es : List Expr} {m : MX} {tg iter elt : Expr} {ifs : List Expr} {pos spos py : Pos} {t : Fr → R Bool} {scope : Scope} {own : List (Str × Nat)}
def eTupE (ma : Fr → R (List D)) (ra : Fr → Option Str) : MX := fun E => match ra E with
  | some n => .er n
  | none => eTup ma E
theorem em_tupE {ma : Fr → R (List D)} {ra : Fr → Option Str} (h : AM X es ma) (hra : RA X es ra) {x1} (hl : es.length ≤ sizeLine := by exact Nat.le_of_ble_eq_true rfl) : EM X (.Tuple es x1 pos) (eTupE ma ra) := .mk fun C ρ => by
  unfold eTupE
  split
  · rename_i n q
    show EX X C ρ _ n
    intro σ H S W tk hW Q
    exact wpE_of (pe_tup pa_wp) (hra.run C ρ n q σ H S W tk hW _)
  · exact em_tup h hl C ρ
theorem sm_setLcOE (i : Nat) {y : Str} {g : D → R (List (Nat × D))} {mi : Fr → R (List D)} (hi : IM X tg iter mi) (h : LcMx X scope own tg ifs elt g t m) (ok : BlkOk X.N X.env.scope scope own) (hN : X.N.Nodup) (hy : X.N[i]? = some y := by rfl) (hyl : X.env.scope.names.lookup y = some .local := by rfl)
    (hsw : swapsWith (.ListComp elt [⟨tg, iter, ifs, 0⟩] scope pos) (some (.Name y py)) spos.line X.env = pure true := by exact sw_true rfl rfl rfl (by decide +kernel)) (hc : X.calm = true := by rfl) (hf : ∀ x, foldedSetIterable iter X.env x = pure x := by intro _; rfl) (hst : X.stack = X.env :: X.outer := by rfl) (hfr : X.env.frame = some X.env.locals := by rfl) :
    SM X (.Assign [.Name y py] (.ListComp elt [⟨tg, iter, ifs, 0⟩] scope pos) spos) (sSetO i (eLcE (own.map (·.2)) g mi t m)) := .mk fun C ρ P okk => by
  have h0 := sm_setLcO (py := py) (spos := spos) (pos := pos) i hi h.lcm ok hN hy hyl hsw hc hf C ρ P
  unfold sSetO eLcE lcGoE at okk
  unfold sSetO eLc lcGo at h0
  split at okk
  · rename_i ds q
    rw [q] at h0
    dsimp only at h0
    split at okk
    · rename_i hz
      rw [if_pos hz] at h0
      cases q2 : lcNE (lc1E g t m (wipeF (frOf ρ) (own.map (·.2)))) ds with
      | ok vs =>
        rw [lcNE_ok q2] at h0
        rw [q2] at okk
        exact h0 okk
      | er n =>
        rw [q2] at okk
        obtain ⟨k, x, k1, k2, k3⟩ := lcNE_er q2
        exact ws_setLcX (enc := fun d : D => d) (xs := ds) (by rw [List.map_id']; exact hi C ρ ds q) (lcx_ok h ⟨X.s_0, (fun _ => none), X.env.locals, [], [], fun _ _ => False, X.s_0, (fun _ => none), X.env.locals, [], [], fun _ _ => False, rfl⟩ hz.1 k1 k2 k3) (okk ρ rfl) rfl (ows_wipeR hz.1).1 hz.2 (List.getElem?_eq_some_iff.mp k1).1 ok hN hst hfr hsw hc hf
      | bad => rw [q2] at okk; exact okk.elim
    · exact okk.elim
  · exact okk.elim
end
end DL

set_option maxHeartbeats 4000000
/-! ### lists that a def has handed back and that are no lists of its arguments: one's own -/
namespace DL
open PySem PySem.Spec PyProof.Rows L2
section
variable {K : PySem.W.Frag} {H : Hp}
/-- the lists' data are such, too -/
theorem nr_subs : (∀ d : D, d.nr = true → ∀ x ∈ d.subs, x.nr = true) := by
  intro d
  exact D.rec (motive_1 := fun d => d.nr = true → ∀ x ∈ d.subs, x.nr = true) (motive_2 := fun ds => D.nrs ds = true → ∀ x ∈ D.subss ds, x.nr = true)
    (fun v _ x h => absurd h List.not_mem_nil) (fun l ih h x hx => ih h x hx) (fun l ih h x hx => (List.mem_cons.mp hx).elim (fun z => by rw [z]; exact h) fun z => ih h x z) (fun _ _ x h => absurd h List.not_mem_nil) (fun _ _ _ _ h => by cases h) (fun h => by cases h)
    (fun h => by cases h) (fun _ x h => absurd h List.not_mem_nil) (fun d ds i1 i2 h x hx => (List.mem_append.mp hx).elim (fun z => i1 ((Bool.and_eq_true _ _).mp h).1 x z) fun z => i2 ((Bool.and_eq_true _ _).mp h).2 x z) d
theorem nrs_subs : ∀ (ds : List D), D.nrs ds = true → ∀ x ∈ D.subss ds, x.nr = true
  | [], _, x, h => absurd h List.not_mem_nil
  | d :: ds, h, x, hx => (List.mem_append.mp hx).elim (fun z => nr_subs d ((Bool.and_eq_true _ _).mp h).1 x z) fun z => nrs_subs ds ((Bool.and_eq_true _ _).mp h).2 x z
def isL : Option HO → Bool
  | some (.lst _) => true
  | some (.frz _ (.lst _)) => true
  | _ => false
theorem isL_rd {a : Addr} {xs : List V} (h : Rd H a (.lst xs)) : isL (H a) = true := by
  rcases h with h | ⟨o, h⟩ <;> rw [h] <;> rfl
open Classical in
/-- of a heap's lists only those that stand for some of the data S -/
noncomputable def keepS (K : PySem.W.Frag) (S : List D) (W : Hp) : Hp := fun b => if isL (W b) = true ∧ ¬ (∃ x ∈ S, Rep K W (.ref b) x) then none else W b
theorem keepS_in {S : List D} : Same (keepS K S H) H := fun b x h => by
  unfold keepS at h
  split at h
  · cases h
  · exact h
theorem keepS_other {S : List D} {a : Addr} (h : isL (H a) = false) : keepS K S H a = H a := if_neg fun z => by rw [h] at z; exact absurd z.1 (by decide)
theorem keepS_list {S : List D} {a : Addr} {x : D} (hx : x ∈ S) (r : Rep K H (.ref a) x) : keepS K S H a = H a := if_neg fun z => z.2 ⟨x, hx, r⟩
mutual
theorem Rep.keep (n : NoLists K) {S : List D} : ∀ (d : D) {v : V}, (∀ x ∈ d.subs, x ∈ S) → Rep K H v d → Rep K (keepS K S H) v d
  | .at w, v, h, r => by cases r; exact .at _
  | .tup ds, v, h, r => by
    cases r with
    | tup s r => exact .tup (by rw [keepS_other (by rw [s]; rfl)]; exact s) (Reps.keep n ds h r)
  | .lst ds, v, h, r => by
    have r0 := r
    cases r with
    | @lst a xs _ s r =>
      have e : keepS K S H a = H a := keepS_list (h _ List.mem_cons_self) r0
      refine .lst (.inl ?_) (Reps.keep n ds (fun x hx => h x (List.mem_cons_of_mem _ hx)) r)
      rcases sq_rd n s with z | ⟨o, z⟩
      · exact .inl (e.trans z)
      · exact .inr ⟨o, e.trans z⟩
  | .exc x, v, h, r => by
    cases r with
    | exc c s => exact .exc c (by rw [keepS_other (by rw [s]; rfl)]; exact s)
  | .obj _ _ _, v, h, r => by
    cases r with
    | obj c s l r => exact .obj c (by rw [keepS_other (by rw [s]; rfl)]; exact s) l (Reps.keep n _ h r)
  | .dct, v, h, r => by
    cases r with
    | dct s => exact .dct (by rw [keepS_other (by rw [s]; rfl)]; exact s)
  | .any, v, h, r => by cases r; exact .any
theorem Reps.keep (n : NoLists K) {S : List D} : ∀ (ds : List D) {vs : List V}, (∀ x ∈ D.subss ds, x ∈ S) → Reps K H vs ds → Reps K (keepS K S H) vs ds
  | [], _, h, r => by cases r; exact .nil
  | d :: ds, _, h, r => by
    cases r with
    | cons r s => exact .cons (Rep.keep n d (fun x hx => h x (List.mem_append_left _ hx)) r) (Reps.keep n ds (fun x hx => h x (List.mem_append_right _ hx)) s)
end
end
/-- new lists, not frozen -/
def dem (H1 H2 : Hp) : Hp := fun b => match H1 b with
  | some _ => H2 b
  | none => match H2 b with
    | some (.frz _ (.lst xs)) => some (.lst xs)
    | x => x
theorem dem_old {H1 H2 : Hp} {b : Addr} {u : HO} (h : H1 b = some u) : dem H1 H2 b = H2 b := by unfold dem; rw [h]
theorem dem_none {H1 H2 : Hp} {b : Addr} (h : H2 b = none) : dem H1 H2 b = none := by
  unfold dem
  split
  · exact h
  · rw [h]
theorem dem_keep {H1 H2 : Hp} {b : Addr} {u : HO} (h : H2 b = some u) (n : ∀ o xs, u ≠ .frz o (.lst xs)) : dem H1 H2 b = some u := by
  unfold dem
  split
  · exact h
  · rw [h]
    split
    · rename_i o xs z
      cases z
      exact absurd rfl (n o xs)
    · rfl
theorem dem_new {H1 H2 : Hp} {b : Addr} {xs : List V} (n : H1 b = none) (h : Rd H2 b (.lst xs)) : dem H1 H2 b = some (.lst xs) := by
  unfold dem
  rw [n]
  rcases h with h | ⟨o, h⟩ <;> rw [h]
theorem same_dem {H1 H2 : Hp} (s : Same H1 H2) : Same H1 (dem H1 H2) := fun b x h => by rw [dem_old h]; exact s _ _ h
section
variable {X : Cx}
theorem inv_dem {pins pins0 : List (Addr × Obj)} {σ σ0 : L2.St} {H H1 H2 : Hp} {s0 s : Shared} (I0 : Inv X pins0 σ0 H s0) (sH : Same H H1) (I : Inv X pins σ H2 s) : Inv X pins σ (dem H1 H2) s where
  ok := I.ok
  os := I.os
  bare := I.bare
  base := {
    keep := I.base.keep
    slot := I.base.slot
    free := fun b o h1 h2 h3 => dem_none (I.base.free b o h1 h2 h3)
    there := I.base.there
    tups := fun b xs h => dem_keep (I.base.tups b xs h) (fun _ _ z => by cases z)
    frzs := fun b o u h => by
      rw [dem_old (sH _ _ (I0.base.frzs b o u h))]
      exact I.base.frzs b o u h
    tbls := fun b ps h => by
      obtain ⟨more, e⟩ := I.base.tbls b ps h
      exact ⟨more, dem_keep e (fun _ _ z => by cases z)⟩ }
  loc := I.loc
  cell := I.cell
  free := dem_none I.free
  freeC := fun x c e => dem_none (I.freeC x c e)
  pin := fun p hp => ⟨(I.pin p hp).1, dem_none (I.pin p hp).2.1, (I.pin p hp).2.2⟩
  hok := fun a o e => by
    have ho : ∀ b, H2 b = some (.own a) → dem H1 H2 b = some (.own a) := fun b h => dem_keep h (fun _ _ z => by cases z)
    have ht : ∀ b xs, H2 b = some (.tup xs) → dem H1 H2 b = some (.tup xs) := fun b xs h => dem_keep h (fun _ _ z => by cases z)
    cases q : H2 a with
    | none => rw [dem_none q] at e; cases e
    | some u =>
      by_cases hz : ∃ ob xs, u = .frz ob (.lst xs)
      · obtain ⟨ob, xs, rfl⟩ := hz
        have k := I.hok a _ q
        cases q1 : H1 a with
        | some w =>
          rw [dem_old q1, q] at e
          cases e
          exact k.stay (fun _ _ _ z => z) ho ht
        | none =>
          rw [dem_new q1 (.inr ⟨ob, q⟩)] at e
          cases e
          obtain ⟨_, k2⟩ := k
          exact ObjOk.stay (o := .lst xs) k2 (fun _ _ _ z => z) ho ht
      · rw [dem_keep q (fun ob xs z => hz ⟨ob, xs, z⟩)] at e
        cases e
        exact (I.hok a _ q).stay (fun _ _ _ z => z) ho ht
  len := I.len
theorem wpE_dem {e : Expr} {σ : L2.St} {H : Hp} {Q : VK} (h : wpE X e σ H fun v H2 => ∃ H1, Same H H1 ∧ Q v (dem H1 H2)) : wpE X e σ H Q := fun pins s I =>
  thn (h pins s I) fun u s' ⟨v, H2, I2, r, H1, sH, q⟩ => ⟨v, dem H1 H2, inv_dem I sH I2, r, q⟩
end
section
variable {K : PySem.W.Frag} {W H H1 H2 : Hp}
mutual
theorem RepT.tupl {W' : Hp} (t : Tupl W W') : ∀ (d : D) {v : V} {as : List Addr}, RepT K W H v d as → RepT K W' H v d as
  | d, _, _, .leaf r n => .leaf (Rep.noL t d n r) n
  | .lst ds, _, _, .lst (na := na) (nd := nd) s r => .lst (na := na) (nd := nd) s (RepTs.tupl t ds r)
  | .tup ds, _, _, .tup s r => .tup (t _ _ s) (RepTs.tupl t ds r)
theorem RepTs.tupl {W' : Hp} (t : Tupl W W') : ∀ (ds : List D) {vs : List V} {as : List Addr}, RepTs K W H vs ds as → RepTs K W' H vs ds as
  | [], _, _, .nil => .nil
  | d :: ds, _, _, .cons r s => .cons (RepT.tupl t d r) (RepTs.tupl t ds s)
end
/-- what is told when the heap is seen through the lists of S alone -/
theorem tree_go (n : NoLists K) {S : List D} (hS : ∀ x ∈ S, x.nr = true) {V0 : Hp} (s0 : Same V0 H1) (s : Same H1 H2) (hw : W = vis ⟨H1, keepS K S V0, []⟩ [] H2) :
    (∀ d : D, ∀ v : V, d.nr = true → (d.subs.Nodup ∨ ∀ l, D.lst l ∈ d.subs → D.allFl l = true → l = []) → (∀ x ∈ d.subs, x ∉ S) → Rep K W v d → ∃ as, RepT K W (dem H1 H2) v d as ∧ (∀ a ∈ as, H1 a = none) ∧ Paired (fun a x => Rep K H2 (.ref a) x ∧ x.nr = true) as d.subs) := by
  have wIn : Same W H2 := by
    rw [hw]
    exact vis_in (C := ⟨H1, keepS K S V0, []⟩) (keepS_in.trans s0) s
  intro d
  exact D.rec (motive_1 := fun d => ∀ v : V, d.nr = true → (d.subs.Nodup ∨ ∀ l, D.lst l ∈ d.subs → D.allFl l = true → l = []) → (∀ x ∈ d.subs, x ∉ S) → Rep K W v d → ∃ as, RepT K W (dem H1 H2) v d as ∧ (∀ a ∈ as, H1 a = none) ∧ Paired (fun a x => Rep K H2 (.ref a) x ∧ x.nr = true) as d.subs)
    (motive_2 := fun ds => ∀ vs : List V, D.nrs ds = true → ((D.subss ds).Nodup ∨ ∀ l, D.lst l ∈ D.subss ds → D.allFl l = true → l = []) → (∀ x ∈ D.subss ds, x ∉ S) → Reps K W vs ds → ∃ as, RepTs K W (dem H1 H2) vs ds as ∧ (∀ a ∈ as, H1 a = none) ∧ Paired (fun a x => Rep K H2 (.ref a) x ∧ x.nr = true) as (D.subss ds))
    (fun w v h1 hn h2 r => ⟨[], .leaf r rfl, fun a z => absurd z List.not_mem_nil, .nil⟩)
    (fun l ih v h1 hn h2 r => by
      cases r with
      | tup q r =>
        obtain ⟨as, t, na, pr⟩ := ih _ h1 hn h2 r
        exact ⟨as, .tup q t, na, pr⟩)
    (fun l ih v h1 hn h2 r => by
      have r2 := Rep.mono wIn _ r
      cases r with
      | @lst a xs _ q r =>
        obtain ⟨as, t, na, pr⟩ := ih _ h1 (hn.imp (fun z => (List.nodup_cons.mp z).2) fun z l hl => z l (List.mem_cons_of_mem _ hl)) (fun x hx => h2 x (List.mem_cons_of_mem _ hx)) r
        have rd := sq_rd n q
        have new : H1 a = none := by
          cases e : H1 a with
          | none => rfl
          | some u =>
            exfalso
            have eW : W a = Ctx.see ⟨H1, keepS K S V0, []⟩ a := by
              rw [hw]
              unfold vis
              rw [if_pos (by show (H1 a).isSome = true; rw [e]; rfl)]
            have rd2 : Rd (keepS K S V0) a (.lst xs) := by
              have z : Ctx.see ⟨H1, keepS K S V0, []⟩ a = keepS K S V0 a := by
                unfold Ctx.see
                refine if_neg fun ht => ?_
                obtain ⟨ys, ht'⟩ := atT_some ht
                have ht2 : Ctx.see ⟨H1, keepS K S V0, []⟩ a = some (.tup ys) := by
                  unfold Ctx.see
                  rw [if_pos ht]
                  exact ht'
                rw [← eW] at ht2
                rcases rd with y | ⟨o, y⟩ <;> rw [ht2] at y <;> cases y
              rcases rd with y | ⟨o, y⟩
              · exact .inl (by rw [← z, ← eW]; exact y)
              · exact .inr ⟨o, by rw [← z, ← eW]; exact y⟩
            have rd3 : Rd V0 a (.lst xs) := by
              rcases rd2 with y | ⟨o, y⟩
              · exact .inl (keepS_in _ _ y)
              · exact .inr ⟨o, keepS_in _ _ y⟩
            have ex : ∃ x ∈ S, Rep K V0 (.ref a) x := by
              by_cases z : ∃ x ∈ S, Rep K V0 (.ref a) x
              · exact z
              · exfalso
                have y : keepS K S V0 a = none := if_pos ⟨isL_rd rd3, z⟩
                rcases rd2 with w | ⟨o, w⟩ <;> rw [y] at w <;> cases w
            obtain ⟨x, hx, rx⟩ := ex
            have ee : D.lst l = x := Rep.det n _ _ (H := H2) h1 (hS x hx) r2 (Rep.mono (s0.trans s) _ rx)
            exact h2 _ List.mem_cons_self (by rw [ee]; exact hx)
        have rdH : Rd H2 a (.lst xs) := by
          rcases rd with y | ⟨o, y⟩
          · exact .inl (wIn _ _ y)
          · exact .inr ⟨o, wIn _ _ y⟩
        exact ⟨a :: as, .lst (na := fun ma => by
            obtain ⟨b, hb, f1, f2⟩ := paired_mem pr ma
            exact lst_not_sub l (by rw [Rep.det n _ _ (H := H2) h1 f2 r2 f1]; exact hb)) (nd := fun af => by
            rcases hn with z | z
            · exact paired_nodup (fun _ _ _ h1 h2 => Rep.det n _ _ (H := H2) h1.2 h2.2 h1.1 h2.1) pr (List.nodup_cons.mp z).2
            · have e := z l List.mem_cons_self af
              subst e
              cases pr
              exact List.nodup_nil) (dem_new new rdH) t, fun b hb => (List.mem_cons.mp hb).elim (fun z => by rw [z]; exact new) fun z => na b z, .cons ⟨r2, h1⟩ pr⟩)
    (fun x v h1 _ h2 r => by simp [D.nr] at h1) (fun _ _ _ _ v h1 _ h2 r => by simp [D.nr] at h1) (fun v h1 _ h2 r => by simp [D.nr] at h1) (fun v h1 _ h2 r => by simp [D.nr] at h1)
    (fun vs h1 _ h2 r => by cases r; exact ⟨[], .nil, fun a z => absurd z List.not_mem_nil, .nil⟩)
    (fun d ds i1 i2 vs h1 hn h2 r => by
      cases r with
      | cons r q =>
        have g := (Bool.and_eq_true _ _).mp h1
        obtain ⟨as, t1, n1, p1⟩ := i1 _ g.1 (hn.imp (fun z => (List.nodup_append.mp z).1) fun z l hl => z l (List.mem_append_left _ hl)) (fun x hx => h2 x (List.mem_append_left _ hx)) r
        obtain ⟨bs, t2, n2, p2⟩ := i2 _ g.2 (hn.imp (fun z => (List.nodup_append.mp z).2.1) fun z l hl => z l (List.mem_append_right _ hl)) (fun x hx => h2 x (List.mem_append_right _ hx)) q
        exact ⟨as ++ bs, .cons t1 t2, fun a ha => (List.mem_append.mp ha).elim (n1 a) (n2 a), paired_append p1 p2⟩) d
end
/-- of the lists in d none is one of the arguments' -/
def FreshP (args : List D) (d : D) : Prop := D.nrs args = true ∧ (TreeP d ∨ NoF d) ∧ ∀ x ∈ d.subs, x ∉ D.subss args
open Classical in
noncomputable def freshR (f : List D → R Ret) (l : R (List D)) : R D := match l with
  | .ok ds => match f ds with
    | .ok (.im d) => if FreshP ds d then .ok d else .bad
    | _ => .bad
  | _ => .bad
noncomputable def xCall (f : List D → R Ret) (ma : Fr → R (List D)) : Fr → R D := fun E => freshR f (ma E)
section
variable {X : Cx} {C : Ctx} {ρ ρ' : Rho} {e b c : Expr} {es : List Expr} {m mk mj : MX} {pos p : Pos} {P : Post} {x1 : Nat}
variable {k n : Nat} {x : Str} {ps : List Str} {f : List D → R Ret}
theorem xm_call {mr : Fr → R (List D)} (nl : NoLists X.K) (F : CalX X.prog X.w X.K X.mg X.base k x ps (spM X.K n f)) (hr : Room k X.A) (h : VM X (e :: es) mr) (hn : (e :: es).length = n := by rfl) (hg : Gl X x := by rfl) (hdb : (x == ("__debug__" : Str)) = false := by decide)
    (he : starEach (e :: es) X.env = (false, eval e X.env) :: starEach es X.env := by exact se_of rfl) (hpl : (backTo pos (starEach es X.env)).any (·.1) = false := by rfl) : XM X (.Call (.Name x p) (e :: es) [] pos) (xCall f mr) := .mk fun C ρ d q => by
  unfold xCall freshR at q
  split at q
  · rename_i ds qm
    split at q
    · rename_i d' qf
      split at q
      · rename_i fp
        cases q
        obtain ⟨h1, h2⟩ := h C ρ ds qm
        have hl : ds.length = n := h2.trans hn
        intro σ H S Q kk
        obtain ⟨g, fd, CX, hm, hk, hb, F, hx⟩ := F.cal.ex
        refine wpE_dem (wpE_of (pe_call (dvs := []) F hr hg hm hk hb .nil (hx X rfl rfl) pa_wp hdb he hpl) (h1 σ H S _ fun vs H1 s1 r1 => ?_))
        have S1 := S.same s1
        rw [List.append_nil]
        have in1 := visA_in (o := ows ρ) S1.gh S1.hh
        refine ⟨keepS X.K (D.subss ds) (visA C (ows ρ) H1), ⟨ds, hl⟩, keepS_in.trans in1, Reps.keep nl ds (fun _ z => z) r1, (by show notBad (f ds); rw [qf]; trivial), fun r' v H2 hr2 s2 rr => ?_, fun z c H2 hr2 => ?_⟩
        · have hr3 : resOf (f ds) = .ok r' := hr2
          rw [qf] at hr3
          cases hr3
          obtain ⟨as, t, na, pr⟩ := tree_go nl (nrs_subs ds fp.1) in1 s2 rfl d v (fp.2.1.elim (·.1) (·.1)) (fp.2.1.imp (·.2) (·.2)) fp.2.2 rr
          refine ⟨H1, s1, kk v as _ (fun a ha => s1.free (na a ha)) (s1.trans (same_dem s2)) (RepT.tupl ?_ d t)⟩
          · have tb := tupl_back S1 (same_dem s2) as fun a ha => ⟨na a ha, RepT.isl d t a ha⟩
            refine fun a xs hh => tb a xs ?_
            unfold vis at hh ⊢
            split at hh
            · rename_i q
              rw [if_pos q]
              unfold Ctx.see at hh ⊢
              split at hh
              · rename_i z; rw [if_pos z]; exact hh
              · rename_i z; rw [if_neg z]; exact keepS_in _ _ hh
            · rename_i q
              rw [if_neg q]
              split at hh
              · cases hh
              · have e2 : dem H1 H2 a = some (.tup xs) := dem_keep hh (fun _ _ z => by cases z)
                rw [if_neg fun z => ?_]
                · exact e2
                · rcases z.1 with y | y
                  · obtain ⟨ys, e3⟩ := RepT.isl d t a y
                    rw [e2] at e3
                    cases e3
                  · exact absurd y List.not_mem_nil
        · have hr3 : resOf (f ds) = .er z := hr2
          rw [qf] at hr3
          cases hr3
      · cases q
    · cases q
  · cases q
end
end DL

set_option maxHeartbeats 4000000
/-! ### x, y = what a def has handed back: lists of one's own -/
namespace DL
open PySem PySem.Spec PyProof.Rows L2
def entD (d : D) : Sl := if d.noL = true then .im d else match d with
  | .lst ds => if D.noLs ds = true then .ow ds else .ot d
  | _ => .ot d
def setsX : Fr → List Nat → List D → Fr
  | E, i :: is, d :: ds => setsX (setS E i (entD d)) is ds
  | E, _, _ => E
section
variable {K : PySem.W.Frag} {C : Ctx} {H H' : Hp} {σ : L2.St} {ρ : Rho}
theorem entD_og {k : GK} {ds : List D} {d : D} (h : Sl.og k ds = entD d) : False := by
  unfold entD at h
  split at h
  · cases h
  · split at h
    · split at h <;> cases h
    · cases h
theorem setEnt (S : SRel K C H σ ρ) (i : Nat) {v : V} {d : D} {as : List Addr} (s : Same H H') (n : ∀ a ∈ as, H a = none) (r : RepT K (vis C (as ++ ows ρ) H') H' v d as) :
    ∃ ρ', frOf ρ' = setS (frOf ρ) i (entD d) ∧ SRel K C H' (σ.set i (some v)) ρ' ∧ Same (vis C (ows ρ) H) (vis C (ows ρ') H') ∧ ∀ b ∈ ows ρ', b ∈ as ++ ows ρ := by
  have there : ∀ a ∈ as, H' a ≠ none := fun a ha z => by
    obtain ⟨xs, e⟩ := RepT.isl _ r a ha
    rw [e] at z
    cases z
  have own : ∀ x : En, x.own = as → x.sl = entD d → (∀ a ds, x = .ow a ds → v = .ref a ∧ ∃ xs, H' a = some (.lst xs) ∧ Reps K (vis C (x.own ++ ows ρ) H') xs ds) → (∀ a ds, x = .od a ds → False) → (∀ bs t, x = .ot bs t → RepT K (vis C (x.own ++ ows ρ) H') H' v t bs) → (∀ d, x ≠ .im d) →
      ∃ ρ', frOf ρ' = setS (frOf ρ) i (entD d) ∧ SRel K C H' (σ.set i (some v)) ρ' ∧ Same (vis C (ows ρ) H) (vis C (ows ρ') H') ∧ ∀ b ∈ ows ρ', b ∈ as ++ ows ρ := fun x ho hs h1 h2 h3 h4 => by
    refine ⟨ρ.set i x, by rw [frOf_set, hs], ?_⟩
    by_cases hl : i < ρ.length
    · obtain ⟨S2, s2⟩ := S.setOwns i hl (v := v) (x := x) (by rw [ho]; exact n) s (by rw [ho]; exact there) h1 (fun a ds z => (h2 a ds z).elim) h3 h4 (fun a k ds z => by rw [z] at hs; exact (entD_og hs).elim)
      exact ⟨S2, s2, fun b hb => (ows_set_sub hb).elim (fun z => List.mem_append_right _ z) fun z => List.mem_append_left _ (by rw [← ho]; exact z)⟩
    · rw [set_oob hl, set_oobS (by rw [S.len]; exact hl)]
      exact ⟨S.same s, vis_same s, fun b hb => List.mem_append_right _ hb⟩
  by_cases hn : d.noL = true
  · obtain ⟨rfl, r1⟩ := RepT.flat d hn r
    obtain ⟨S2, s2⟩ := (S.same s).setIm i r1
    exact ⟨ρ.set i (.im d), by rw [frOf_set]; unfold entD; rw [if_pos hn]; rfl, S2, (vis_same s).trans s2, fun b hb => (ows_set_sub hb).elim (fun z => z) fun z => absurd z List.not_mem_nil⟩
  · have ot : entD d = .ot d → ∃ ρ', frOf ρ' = setS (frOf ρ) i (entD d) ∧ SRel K C H' (σ.set i (some v)) ρ' ∧ Same (vis C (ows ρ) H) (vis C (ows ρ') H') ∧ ∀ b ∈ ows ρ', b ∈ as ++ ows ρ := fun e =>
      own (.ot as d) rfl e.symm (fun _ _ z => by cases z) (fun _ _ z => by cases z) (fun bs t z => by cases z; exact r) (fun _ z => by cases z)
    have e0 : entD d = (match d with
      | .lst ds => if D.noLs ds = true then Sl.ow ds else .ot d
      | _ => .ot d) := by
      unfold entD
      rw [if_neg hn]
      cases d <;> rfl
    cases d with
    | «at» w => exact ot e0
    | tup l => exact ot e0
    | exc x => exact ot e0
    | obj _ _ _ => exact ot e0
    | dct => exact ot e0
    | any => exact ot e0
    | lst l =>
      by_cases hl : D.noLs l = true
      · cases r with
        | leaf r n' => exact absurd n' hn
        | @lst a xs _ bs _ _ q t =>
          obtain ⟨rfl, r1⟩ := RepTs.flat l hl t
          refine own (.ow a l) rfl (by rw [e0]; exact (if_pos hl).symm) (fun b ds z => by cases z; exact ⟨rfl, xs, q, r1⟩) (fun _ _ z => by cases z) (fun _ _ z => by cases z) (fun _ z => by cases z)
      · exact ot (by rw [e0]; exact if_neg hl)
end
/-- but for some addresses -/
def wout (as : List Addr) (H : Hp) : Hp := fun b => if b ∈ as then none else H b
section
variable {X : Cx} {C : Ctx} {ρ ρ' : Rho} {e b c : Expr} {es tgs : List Expr} {m mk mj : MX} {pos p : Pos} {P : Post} {x1 : Nat} {is : List Nat}
structure XGM (X : Cx) (tgs : List Expr) (is : List Nat) : Prop where
  run : ∀ (C : Ctx) (ds : List D) (ρ : Rho) (σ : L2.St) (Hm H1 : Hp) (as : List Addr) (vs : List V) (Q : L2.St → Hp → Prop), is.length = ds.length → SRel X.K C Hm σ ρ → Same Hm H1 → RepTs X.K (vis C (as ++ ows ρ) H1) H1 vs ds as → (∀ a ∈ as, Hm a = none) → as.Nodup →
    (∀ σ' ρ', frOf ρ' = setsX (frOf ρ) is ds → SRel X.K C H1 σ' ρ' → Same (vis C (ows ρ) Hm) (vis C (ows ρ') H1) → Q σ' H1) → wpGs X tgs vs σ H1 Q
theorem xg_nil : XGM X [] [] := .mk fun C ds ρ σ Hm H1 as vs Q hl S s r n nd q => by
  cases ds with
  | cons d ds => cases hl
  | nil =>
    cases r
    exact fun pins s0 us I rv => pgs_nil.run pins s0 σ H1 _ us Q I rv ⟨rfl, q σ ρ rfl (S.same s) (vis_same s)⟩
theorem xg_cons (i : Nat) {x : Str} (h : XGM X tgs is) (hN : X.N.Nodup) (hi : X.N[i]? = some x := by rfl) (hx : Loc X.env.scope x := by first | exact Or.inl rfl | exact Or.inr rfl) (hf : X.fn x = true ∨ X.env.scope.names.lookup x = some .local := by first | exact .inl rfl | exact .inr rfl)
    (hs : (assignEach (.Name x pos :: tgs) X.env).map (·.2) = assign (.Name x pos) X.env :: (assignEach tgs X.env).map (·.2) := by rfl) : XGM X (.Name x pos :: tgs) (i :: is) := .mk fun C ds ρ σ Hm H1 as vs Q hl S s r n nd q => by
  cases ds with
  | nil => cases hl
  | cons d ds =>
    cases r with
    | @cons v _ vs _ as1 as2 r t =>
      have disj : ∀ a ∈ as1, a ∉ as2 := fun a h1 h2 => (List.nodup_append.mp nd).2.2 a h1 a h2 rfl
      have l2 : ∀ a ∈ as2, ∃ xs, H1 a = some (.lst xs) := RepTs.isl _ t
      have sm : Same Hm (wout as2 H1) := fun b u hb => by
        unfold wout
        rw [if_neg fun z => by rw [n b (List.mem_append_right _ z)] at hb; cases hb]
        exact s _ _ hb
      have sw : Same (vis C ((as1 ++ as2) ++ ows ρ) H1) (vis C (as1 ++ ows ρ) (wout as2 H1)) := fun b u hb => by
        unfold vis at hb ⊢
        split at hb
        · rename_i z; rw [if_pos z]; exact hb
        · rename_i z
          rw [if_neg z]
          split at hb
          · cases hb
          · rename_i y
            have nb : b ∉ as2 := fun w => y ⟨.inl (List.mem_append_left _ (List.mem_append_right _ w)), by obtain ⟨xs, e⟩ := l2 b w; rw [e]; rfl⟩
            have e : wout as2 H1 b = H1 b := if_neg nb
            rw [e, if_neg fun w => y ⟨w.1.elim (fun k => .inl ((List.mem_append.mp k).elim (fun k => List.mem_append_left _ (List.mem_append_left _ k)) fun k => List.mem_append_right _ k)) .inr, w.2⟩]
            exact hb
      have r1 : RepT X.K (vis C (as1 ++ ows ρ) (wout as2 H1)) (wout as2 H1) v d as1 := RepT.mono sw d (fun a ha => (if_neg (disj a ha)).symm) r
      obtain ⟨ρ1, f1, S1, s1, o1⟩ := setEnt S i sm (fun a ha => n a (List.mem_append_left _ ha)) r1
      have sH : Same (wout as2 H1) H1 := fun b u hb => by
        unfold wout at hb
        split at hb
        · cases hb
        · exact hb
      intro pins s0 us I rv
      refine (pgs_cons (pg_name hN hi hx hf) pgs_wp hs).run pins s0 σ H1 _ us Q I rv ⟨_, _, rfl, h.run C ds ρ1 _ (wout as2 H1) H1 as2 vs Q (by simpa using hl) S1 sH (RepTs.mono ?_ _ (fun _ _ => rfl) t) (fun a ha => if_pos ha) (List.nodup_append.mp nd).2.1 fun σ' ρ' f2 S2 s2 => q σ' ρ' ?_ S2 (s1.trans s2)⟩
      · refine vis_sub fun b hb => ?_
        rcases List.mem_append.mp hb with z | z
        · exact List.mem_append_left _ (List.mem_append_right _ z)
        · rcases List.mem_append.mp (o1 b z) with y | y
          · exact List.mem_append_left _ (List.mem_append_left _ y)
          · exact List.mem_append_right _ y
      · rw [f2, f1]
        rfl
open Classical in
/-- x, y, .. = new lists -/
noncomputable def sUnpX (is : List Nat) (m : Fr → R D) : Fr → O := fun E => match m E with
  | .ok (.tup ds) => if is.length = ds.length ∧ TreeP (.tup ds) then .nx (setsX E is ds) else .bad
  | _ => .bad
theorem sm_unpX {kk : Nat} {xm : Fr → R D} (nl : NoLists X.K) (h : XM X e xm) (g : XGM X tgs is) (hc : X.calm = true := by rfl) (hn : (assignEach tgs X.env).length = is.length := by rfl) (hst : (assignEach tgs X.env).findIdx? (·.1) = none := by rfl)
    (hs : swapsWithSole [.Tuple tgs kk p] e pos.line X.env = pure false := by rfl) (hw : swappedStores [.Tuple tgs kk p] e X.env = pure none := by rfl) (h1 : (assignEach [.Tuple tgs kk p] X.env).map (·.2) = [assign (.Tuple tgs kk p) X.env] := by rfl) :
    SM X (.Assign [.Tuple tgs kk p] e pos) (sUnpX is xm) := .mk fun C ρ P ok => by
  unfold sUnpX at ok
  split at ok
  · rename_i ds q
    split at ok
    · rename_i hl
      intro σ H D S L
      refine wpS_of (ps_asg pe_wp (pg_tup hc pgs_wp hn hst) hs hw h1) (h.run C ρ _ q σ H S _ fun v as H1 n1 s1 r1 => ?_)
      have got : ∃ a vs, v = .ref a ∧ H1 a = some (.tup vs) ∧ RepTs X.K (vis C (as ++ ows ρ) H1) H1 vs ds as := by
        cases r1 with
        | leaf r n =>
          cases r with
          | tup sq rs => exact ⟨_, _, rfl, vis_in S.gh (S.hh.trans s1) _ _ sq, RepTs.leaves n rs⟩
        | tup sq rs => exact ⟨_, _, rfl, vis_in S.gh (S.hh.trans s1) _ _ sq, rs⟩
      have d1 : as.Nodup := RepT.nodupT nl (vis_in S.gh (S.hh.trans s1)) r1 hl.2
      obtain ⟨a, vs, rfl, ha, rs⟩ := got
      exact ⟨_, _, rfl, tq ha, by rw [RepTs.length rs, hl.1], g.run C ds ρ σ H H1 as vs _ hl.1 S s1 rs n1 d1 fun σ' ρ' f2 S2 s2 => L.nx _ _ H1 (ok _ f2) S2 s2⟩
    · exact ok.elim
  · exact ok.elim
end
end DL

set_option maxHeartbeats 4000000
/-! ### new lists that are changed and not looked at again: two of them may be one -/
namespace DL
open PySem PySem.Spec PyProof.Rows L2
section
variable {K : PySem.W.Frag} {C : Ctx} {W H H' : Hp} {σ : L2.St} {ρ : Rho}
theorem SRel.hideOt (S : SRel K C H σ ρ) {i : Nat} {as : List Addr} {d : D} (hr : ρ[i]? = some (.ot as d)) :
    SRel K { C with hid := as ++ C.hid } H σ (ρ.set i .no) ∧ Same (vis C (ows ρ) H) (vis { C with hid := as ++ C.hid } (ows (ρ.set i .no)) H) := by
  have sub : ∀ b, b ∈ ows (ρ.set i .no) → b ∈ ows ρ := fun b hb => (ows_set_sub hb).elim id fun z => absurd z List.not_mem_nil
  have mas : ∀ b, b ∈ as → b ∈ ows ρ := fun b hb => mem_owsL hr hb
  have sm : Same (vis C (ows ρ) H) (vis { C with hid := as ++ C.hid } (ows (ρ.set i .no)) H) := fun b u hb => by
    unfold vis at hb ⊢
    split at hb
    · rename_i z; rw [if_pos z]; exact hb
    · rename_i z
      rw [if_neg z]
      split at hb
      · cases hb
      · rename_i y
        rw [if_neg fun w => y ⟨w.1.elim (fun k => .inl (sub b k)) (fun k => (List.mem_append.mp k).elim (fun k => .inl (mas b k)) .inr), w.2⟩]
        exact hb
  have ne : ∀ {j : Nat} {e : En}, e ≠ .no → (ρ.set i .no)[j]? = some e → ρ[j]? = some e := fun {j e} he h => by
    by_cases hj : j = i
    · subst hj
      rw [List.getElem?_set_self (List.getElem?_eq_some_iff.mp hr).1] at h
      exact absurd (Option.some.inj h).symm he
    · rw [List.getElem?_set_ne (Ne.symm hj)] at h
      exact h
  refine ⟨⟨by simpa using S.len, S.gh, S.hh, owns_nodup S.nd (fun a h => absurd h List.not_mem_nil), fun a h => ?_, fun a h z => ?_, fun j d' h => ?_, fun j a ds h => ?_, fun j a ds h => ?_, fun j bs t h => ?_, fun j a k ds h => ?_⟩, sm⟩
  · rcases h with h | h
    · exact S.fr a (.inl (sub a h))
    · exact S.fr a ((List.mem_append.mp h).imp (mas a) id)
  · rcases List.mem_append.mp z with z | z
    · exact own_out S.nd hr z List.not_mem_nil h
    · exact S.dj a (sub a h) z
  · obtain ⟨v, h1, h2⟩ := S.im j d' (ne (fun z => by cases z) h)
    exact ⟨v, h1, Rep.mono sm _ h2⟩
  · obtain ⟨h1, xs, h2, h3⟩ := S.ow j a ds (ne (fun z => by cases z) h)
    exact ⟨h1, xs, h2, Reps.mono sm _ h3⟩
  · obtain ⟨h1, xs, h2, h3⟩ := S.od j a ds (ne (fun z => by cases z) h)
    exact ⟨h1, xs, h2, h3.mono sm⟩
  · obtain ⟨v, h1, h2⟩ := S.ot j bs t (ne (fun z => by cases z) h)
    exact ⟨v, h1, RepT.mono sm _ (fun _ _ => rfl) h2⟩
  · obtain ⟨h1, xs, o, h2, h3, h4⟩ := S.og j a k ds (ne (fun z => by cases z) h)
    exact ⟨h1, xs, o, h2, h3, Reps.mono sm _ h4⟩
theorem SRel.unhide {as : List Addr} (S : SRel K { C with hid := as ++ C.hid } H σ ρ) : SRel K C H σ ρ ∧ Same (vis { C with hid := as ++ C.hid } (ows ρ) H) (vis C (ows ρ) H) := by
  have sm : Same (vis { C with hid := as ++ C.hid } (ows ρ) H) (vis C (ows ρ) H) := vis_hids fun b hb => hb.imp id fun z => List.mem_append_right _ z
  refine ⟨⟨S.len, S.gh, S.hh, S.nd, fun a h => S.fr a (h.imp id fun z => List.mem_append_right _ z), fun a h z => S.dj a h (List.mem_append_right _ z), fun j d' h => ?_, fun j a ds h => ?_, fun j a ds h => ?_, fun j bs t h => ?_, fun j a k ds h => ?_⟩, sm⟩
  · obtain ⟨v, h1, h2⟩ := S.im j d' h
    exact ⟨v, h1, Rep.mono sm _ h2⟩
  · obtain ⟨h1, xs, h2, h3⟩ := S.ow j a ds h
    exact ⟨h1, xs, h2, Reps.mono sm _ h3⟩
  · obtain ⟨h1, xs, h2, h3⟩ := S.od j a ds h
    exact ⟨h1, xs, h2, h3.mono sm⟩
  · obtain ⟨v, h1, h2⟩ := S.ot j bs t h
    exact ⟨v, h1, RepT.mono sm _ (fun _ _ => rfl) h2⟩
  · obtain ⟨h1, xs, o, h2, h3, h4⟩ := S.og j a k ds h
    exact ⟨h1, xs, o, h2, h3, Reps.mono sm _ h4⟩
theorem RepTs.at_lst {l : List D} : ∀ {ds : List D} {n : Nat} {xs : List V} {as : List Addr}, RepTs K W H xs ds as → ds[n]? = some (.lst l) → ∃ c ys, xs[n]? = some (.ref c) ∧ c ∈ as ∧ H c = some (.lst ys) ∧ ys.length = l.length
  | [], n, _, _, _, h => by simp at h
  | d :: ds, 0, _, _, .cons r t, h => by
    have e : d = .lst l := by simpa using h
    subst e
    cases r with
    | leaf _ z => cases z
    | lst s r' => exact ⟨_, _, rfl, List.mem_append_left _ List.mem_cons_self, s, RepTs.length r'⟩
  | d :: ds, n + 1, _, _, .cons r t, h => by
    obtain ⟨c, ys, h1, h2, h3⟩ := RepTs.at_lst (n := n) t (by simpa using h)
    exact ⟨c, ys, by simpa using h1, List.mem_append_right _ h2, h3⟩
theorem RepTs.atI_lst {l ds : List D} {k : Int} {xs : List V} {as : List Addr} (r : RepTs K W H xs ds as) (h : atI ds k = some (.lst l)) : ∃ c ys, atI xs k = some (.ref c) ∧ c ∈ as ∧ H c = some (.lst ys) ∧ ys.length = l.length := by
  unfold atI at h ⊢
  rw [RepTs.length r]
  cases q : ixN ds.length k with
  | none => rw [q] at h; cases h
  | some n => rw [q] at h; exact RepTs.at_lst r h
end
section
variable {X : Cx} {C : Ctx} {ρ ρ' : Rho} {e b : Expr} {es : List Expr} {m mk m1 m2 mj : MX} {pos p : Pos} {P : Post} {st1 st2 : Stmt} {rest : List Stmt}
/-- st is x[k].append(e), x the slot i -/
structure DoomM (X : Cx) (i : Nat) (k : Int) (st : Stmt) (m : MX) : Prop where
  run : ∀ (C : Ctx) (ρ : Rho) (σ : L2.St) (H : Hp) (Z : Ends) (p : Addr) (xs : List V) (c : Addr) (ys : List V) (y : D), SRel X.K C H σ ρ → σ[i]? = some (some (.ref p)) → H p = some (.tup xs) → atI xs k = some (.ref c) → H c = some (.lst ys) → ys.length < sizeLine →
    toD (m (frOf ρ)) = .ok y → (∀ u H2, Same H H2 → Z.nx σ (upd H2 c (.lst (ys ++ [u])))) → wpS X st Z σ H
theorem doom_app (i : Nat) (k : Int) {x : Str} {p1 p2 p3 p4 : Pos} (hk : ∀ C ρ, EE X C ρ b (.int k)) (h : EM X e m) (hN : X.N[i]? = some x := by rfl) (hv : Vis X.env.scope x := by first | exact Or.inl rfl | exact Or.inr (Or.inl rfl) | exact Or.inr (Or.inr rfl)) (hp : PlainIx b := by intro _ _; rfl) (hs : swapsWith (.Call (.Attribute (.Subscript (.Name x p1) b p4) "append" p2) [e] [] p3) none pos.line X.env = pure false := by rfl)
    (hbase : attributeBase (.Subscript (.Name x p1) b p4) "append" X.env (eval (.Subscript (.Name x p1) b p4) X.env) = eval (.Subscript (.Name x p1) b p4) X.env := by rfl)
    (hfew : ((backTo p3 (starEach [e] X.env)).all (fun x => !x.1) && (backToKw p3 (keywordEach [] X.env)).all (fun x => x.1.isSome) && decide (([e]).length + ([] : List Keyword).length + (if ([] : List Keyword).isEmpty then 0 else 1) < 30)) = true := by rfl)
    (hline : (p2.endLine == p3.line) = true := by rfl) (he1 : starEach [e] X.env = (false, eval e X.env) :: starEach [] X.env := by exact se_of rfl) (hd : (x == ("__debug__" : Str)) = false := by decide) (hcd : (x == ("__classdict__" : Str)) = false := by decide) : DoomM X i k (.Expr (.Call (.Attribute (.Subscript (.Name x p1) b p4) "append" p2) [e] [] p3) pos) m := .mk fun C ρ σ H Z p xs c ys y S hσ hH hx hc hl hy q => by
  refine wpS_of (ps_expr (pe_bm PySem.F.plainAttrs_list PySem.F.slot_list_append PySem.F.type_list_append mt_append pe_wp (pa_cons pe_wp pa_nil he1) hbase hfew hline he1 rfl) hs) ?_
  refine wpE_of (pe_ix ix_tup (pe_var hN hv hd hcd) pe_wp hp) ⟨_, hσ, hk C ρ σ H S _ fun w H1 s1 r1 => ?_⟩
  cases r1
  refine ⟨p, xs, k, .ref c, rfl, rfl, tq (s1 _ _ hH), hx, ?_⟩
  refine ⟨.inl ⟨rfl, _, .inl (.inl (s1 _ _ hc))⟩, h.ee hy σ H1 (S.same s1) _ fun u H2 s2 r2 => ?_⟩
  exact ⟨c, ys, u, rfl, rfl, s2 _ _ (s1 _ _ hc), hl, q u H2 (s1.trans s2)⟩
def lenAt (ds : List D) (k : Int) : Bool := match atI ds k with
  | some (.lst l) => decide (l.length ≤ 1000)
  | _ => false
theorem lenAt_eq {ds : List D} {k : Int} (h : lenAt ds k = true) : ∃ l, atI ds k = some (.lst l) ∧ l.length ≤ 1000 := by
  unfold lenAt at h
  split at h
  · rename_i l q; exact ⟨l, q, of_decide_eq_true h⟩
  · cases h
def isOk : R D → Bool
  | .ok _ => true
  | _ => false
theorem isOk_eq {r : R D} (h : isOk r = true) : ∃ y, r = .ok y := by
  cases r with
  | ok y => exact ⟨y, rfl⟩
  | _ => cases h
/-- x[k1].append(..), x[k2].append(..), x not looked at behind -/
def sDoom2 (i : Nat) (k1 k2 : Int) (m1 m2 : MX) (f : Fr → O) : Fr → O := fun E => match nthS E i with
  | .ot (.tup ds) => if (lenAt ds k1 && lenAt ds k2 && isOk (toD (m1 (setS E i .no))) && isOk (toD (m2 (setS E i .no)))) = true then f (setS E i .no) else .bad
  | _ => .bad
theorem bm_doom2 (i : Nat) {k1 k2 : Int} {f : Fr → O} (h1 : DoomM X i k1 st1 m1) (h2 : DoomM X i k2 st2 m2) (h : BM X rest f) : BM X (st1 :: st2 :: rest) (sDoom2 i k1 k2 m1 m2 f) := .mk fun C ρ P ok => by
  unfold sDoom2 at ok
  split at ok
  · rename_i ds q
    split at ok
    · rename_i z
      rw [Bool.and_eq_true, Bool.and_eq_true, Bool.and_eq_true] at z
      obtain ⟨⟨⟨z1, z2⟩, z3⟩, z4⟩ := z
      obtain ⟨l1, a1, b1⟩ := lenAt_eq z1
      obtain ⟨l2, a2, b2⟩ := lenAt_eq z2
      obtain ⟨y1, z3⟩ := isOk_eq z3
      obtain ⟨y2, z4⟩ := isOk_eq z4
      obtain ⟨as, hr⟩ := nth_ot q
      intro σ H D S L
      obtain ⟨v, hσ, r0⟩ := S.ot i as _ hr
      have got : ∃ p xs, v = .ref p ∧ H p = some (.tup xs) ∧ RepTs X.K (vis C (ows ρ) H) H xs ds as := by
        cases r0 with
        | leaf r n =>
          cases r with
          | tup sq rs => exact ⟨_, _, rfl, S.visIn _ _ sq, RepTs.leaves n rs⟩
        | tup sq rs => exact ⟨_, _, rfl, S.visIn _ _ sq, rs⟩
      obtain ⟨p, xs, rfl, hp, rs⟩ := got
      obtain ⟨c1, ys1, g1, g2, g3, g4⟩ := rs.atI_lst a1
      obtain ⟨c2, ys2, k1', k2', k3, k4⟩ := rs.atI_lst a2
      obtain ⟨S0, s0⟩ := S.hideOt hr
      have fE : frOf (ρ.set i .no) = setS (frOf ρ) i .no := frOf_set ..
      have at1 : atT (H c1) = false := by rw [g3]; rfl
      refine wpSs_of (pss_cons ps_wp pss_wp) (h1.run _ _ σ H _ p xs c1 ys1 y1 S0 hσ hp g1 g3 (by rw [sizeLine_eq]; omega) (by rw [fE]; exact z3) fun u H2 s2 => ?_)
      have S2 := (S0.same s2).updHid (D := c1) (o := .lst (ys1 ++ [u])) (List.mem_append_left _ g2) (by rw [s2 _ _ g3]; rfl) rfl
      have v2 : vis { C with hid := as ++ C.hid } (ows (ρ.set i .no)) (upd H2 c1 (.lst (ys1 ++ [u]))) = vis { C with hid := as ++ C.hid } (ows (ρ.set i .no)) H2 := vis_hid (List.mem_append_left _ g2) (by rw [s2 _ _ g3]; rfl) rfl
      have np : p ≠ c1 := fun z => by rw [z, g3] at hp; cases hp
      have cont : ∃ ys, upd H2 c1 (.lst (ys1 ++ [u])) c2 = some (.lst ys) ∧ ys.length ≤ 2000 := by
        by_cases z : c2 = c1
        · exact ⟨_, by rw [z]; exact upd_same, by rw [List.length_append]; simp; omega⟩
        · exact ⟨ys2, by rw [upd_ne z]; exact s2 _ _ k3, by omega⟩
      obtain ⟨ys, hc2, hl2⟩ := cont
      refine wpSs_of (pss_cons ps_wp pss_wp) (h2.run _ _ σ _ _ p xs c2 ys y2 S2 hσ (by rw [upd_ne np]; exact s2 _ _ hp) k1' hc2 (by rw [sizeLine_eq]; omega) (by rw [fE]; exact z4) fun u2 H3 s3 => ?_)
      have S3 := (S2.same s3).updHid (D := c2) (o := .lst (ys ++ [u2])) (List.mem_append_left _ k2') (by rw [s3 _ _ hc2]; rfl) rfl
      have v3 : vis { C with hid := as ++ C.hid } (ows (ρ.set i .no)) (upd H3 c2 (.lst (ys ++ [u2]))) = vis { C with hid := as ++ C.hid } (ows (ρ.set i .no)) H3 := vis_hid (List.mem_append_left _ k2') (by rw [s3 _ _ hc2]; rfl) rfl
      obtain ⟨S4, s4⟩ := S3.unhide
      refine h.run C (ρ.set i .no) P (by rw [fE]; exact ok) σ _ D S4 (L.later ?_)
      refine (s0.trans (vis_same s2)).trans (Same.trans ?_ s4)
      rw [v3, ← v2]
      exact vis_same s3
    · exact ok.elim
  · exact ok.elim
end
end DL

set_option maxHeartbeats 4000000
/-! ### sorted(set(a list of ints)) -/
namespace DL
open PySem PySem.Spec PyProof.Rows L2
section
variable {P : Program} {w : World} {A : Around} {E : Value → Shared → Prop} {s : Shared}
abbrev newSet (w : World) : Obj := { cls := .type "set", dict := none, data := .set #[] 0 (.fresh 0 0 (!w.params.followText "set-order")) }
set_option maxHeartbeats 8000000 in
/-- a set is made of a list of ints -/
theorem set_of_list {l : Addr} {items : Array Value} (ns : List Int) {Q : Value → Shared → Prop} (hh : A.handled = none) (hl : s.heap.IsList l items) (hit : IntsAre items.toList ns) (hb : ns.length + 1 < scanBound)
    (h : ∀ (h' : Heap) (tk c : Nat), SetR w h' s.heap.objs.size (fun j => decide (j ∈ ns)) c → c ≤ ns.length → (∀ b o, s.heap.get? b = some o → h'.get? b = some o) → Q (.ref s.heap.objs.size) { s with heap := h', toks := tk }) :
    wpAny (model P w) A (call (.type "set") [.ref l]) Q E s := by
  have size_eq : items.size = ns.length := by
    have q := IntsAre.length hit
    rwa [Array.length_toList] at q
  obtain ⟨c, tl, hmro⟩ := F.called_set.mro
  have f1 := F.called_set.made
  have f2 := F.called_set.sub
  refine wpAny_call (codeAny_of_tree ?_)
  show wpAny _ _ (callAny (.type "set") _) _ _ _
  refine wpAny_pure ⟨Code.quiet_builtin _ (by decide +kernel), codeAny_builtin F.entry_type_call ?_⟩
  rw [Around.under_plain (weight_type_call_type "set" [.ref l] []) rfl]
  have f3 := F.called_set.notType
  have f4 := F.called_set.canCreate
  have f5 := F.typeCall_set_1 (.ref l)
  repeat (any_goals (first | assumption | wp_step))

  refine codeAny_mono (code_set_led1 (.ref l) (E := E) (Q₁ := fun obj s₁ => obj = .ref s.heap.objs.size ∧ s₁ = { s with heap := s.heap.push (newSet w) }) ⟨rfl, rfl⟩) fun r s₁ hr => ?_
  cases r with
  | error e => exact hr
  | ok fl =>
    cases fl with
    | ret obj =>
      obtain ⟨rfl, rfl⟩ := hr
      have gS : (s.heap.push (newSet w)).get? s.heap.objs.size = some (newSet w) := Heap.get?_push_size _ rfl
      have gT : Shared.TypeIs { s with heap := s.heap.push (newSet w) } (.ref s.heap.objs.size) "set" := ⟨_, gS, rfl⟩
      have f6 := F.called_set.init.lookup
      have f7 := F.called_set.init.bind (.ref s.heap.objs.size)
      repeat (any_goals (first | assumption | wp_step))

      refine codeAny_mono (codeAny_call_builtin (R := wants (fun r s₂ => r = .none ∧ ∃ h' tk c, s₂ = { s with heap := h', toks := tk } ∧ SetR w h' s.heap.objs.size (fun j => decide (j ∈ ns)) c ∧ c ≤ ns.length ∧
          (∀ b o, s.heap.get? b = some o → h'.get? b = some o)) E) F.called_set.init.plain F.entry_set_init (check_set_init_1 gT ?_)) fun r₂ s₂ hr₂ => ?_
      · obtain ⟨ol, hol, hcl, nl, hdl⟩ := hl
        obtain ⟨ocls, odict, odata, oslots⟩ := ol
        simp only at hcl hdl
        subst hcl; subst hdl
        have gl : (s.heap.push (newSet w)).get? l = some { cls := .type "list", dict := odict, data := .seq items nl, slots := oslots } := Heap.get?_push_of_some _ hol
        have f8 := F.sub_list_set
        have f9 := F.sub_list_frozenset
        have f10 : (Value.type "list" == Value.type "dict") = false := by decide
        have il : (s.heap.push (newSet w)).IsList l items := ⟨_, gl, rfl, nl, rfl⟩
        unfold Builtin.«set.__init__» noKeywords Builtin.Frozenset.updateFrom
        generalize hPI : pyIter = PI
        wp_walk
        subst hPI

        refine wpAny_pyIter_list il ?_
        refine wpAny_bind (wpAny_runValue ?_)
        have ltl : l < s.heap.objs.size := Heap.lt_size hol
        have hh3 : A.in1.in1.in1.handled = none := by simp [hh]
        have neI : l ≠ (s.heap.push (newSet w)).objs.size := by
          rw [Heap.size_push]; exact Nat.ne_of_lt (Nat.lt_succ_of_lt ltl)
        have out : s.heap.objs.size ∉ [(s.heap.push (newSet w)).objs.size, l] := by
          rw [Heap.size_push]; simp only [List.mem_cons, List.mem_singleton, List.not_mem_nil, or_false, not_or]
          exact ⟨Nat.ne_of_lt (Nat.lt_succ_self _), Nat.ne_of_gt ltl⟩
        have each : ∀ (i : Nat) (v : Value), items[i]? = some v → ∃ k t, ns[i]? = some k ∧ v = .int k t := fun i v hv => by
          have hi : i < ns.length := by rw [← size_eq]; exact (Array.getElem?_eq_some_iff.mp hv).1
          obtain ⟨t, e⟩ := PyProof.Rows.IntsAre.int_at hit i v (by rw [Array.getElem?_toList]; exact hv)
          refine ⟨ns[i], t, List.getElem?_eq_getElem hi, ?_⟩
          rw [e, List.getD_eq_getElem?_getD, List.getElem?_eq_getElem hi] <;> rfl
        refine set_update_ints ((Walks.list hh3 _ l neI items).toS) s.heap.objs.size
          out ns size_eq hb each (items.size - 0) 0 _ (by omega) (Nat.zero_le _)
          ⟨⟨_, Heap.get?_push_size _ rfl, rfl, rfl⟩, (il.push _)⟩ ?first ?last
        case first => exact ⟨0, Nat.le_refl 0, setR_new_at (Heap.get?_push_of_some _ gS)⟩
        case last =>
          intro s' c' hm hc' hS'
          obtain ⟨h', g2, d', tk', os'⟩ := s'
          have eg : g2 = s.gens := hm.gens
          have ed : d' = s.drawn := hm.drawn
          have eo : os' = s.os := hm.os
          subst eg; subst ed; subst eo
          show wpAny _ _ _ _ _ _
          refine wpAny_pure ?_
          show wpAny _ _ (ret Value.none) _ _ _
          rw [size_eq] at hc'
          refine wpAny_pure ⟨rfl, h', tk', c', rfl, hS', hc', fun b o e => ?_⟩
          have b0 : b < s.heap.objs.size := Heap.lt_size e
          have b1 : b ≠ s.heap.objs.size := Nat.ne_of_lt b0
          have b2 : b ≠ (s.heap.push (newSet w)).objs.size := by
            rw [Heap.size_push]; exact Nat.ne_of_lt (Nat.lt_succ_of_lt b0)
          exact hm.heap b o (by simp only [List.mem_cons, List.mem_singleton, List.not_mem_nil, or_false, not_or]; exact ⟨b1, b2⟩) (Heap.get?_push_of_some _ (Heap.get?_push_of_some _ e))

      · cases r₂ with
        | error e => exact hr₂
        | ok fl₂ =>
          cases fl₂ with
          | ret r =>
            obtain ⟨rfl, h', tk, c', rfl, hS', hc', hk'⟩ := hr₂
            repeat (any_goals (first | assumption | wp_step))
            exact h _ _ _ hS' hc' hk'
          | _ => exact hr₂.elim
    | _ => exact hr.elim
end
section
variable {X : Cx}
theorem cr_setL (hc : X.calm = true) : CallR X (.type "set") (fun xs H Q => ∃ (a : Addr) (ns : List Int), xs = [.ref a] ∧ SqL X.K H a (ns.map V.int) ∧ ns.length ≤ 1000 ∧ ∀ p c, H p = none → c ≤ ns.length → Q (.ref p) (upd H p (SetO X.w p (fun j => decide (j ∈ ns)) c))) := by
  intro pins s σ H xs us Q I r h
  obtain ⟨a, ns, rfl, hs, hl, q⟩ := h
  obtain ⟨its, rv, pl, hz⟩ := I.list hs
  rw [Vals.ref1 r]
  refine set_of_list ns (I.ok.hd hc) pl.isList (by simpa using rv.ints) (by unfold scanBound; omega) fun h' tk c R hc' k => ?_
  have hn := I.hok.fresh (Nat.le_refl s.heap.objs.size)
  exact ⟨.ref _, upd H s.heap.objs.size (SetO X.w s.heap.objs.size (fun j => decide (j ∈ ns)) c), I.laid (t' := tk) k (Nat.le_refl _) (setO_new R), rfl, q _ c hn hc'⟩
end
/-- the ints in rising order, each once -/
def insN (k : Int) : List Int → List Int
  | [] => [k]
  | x :: l => if k < x then k :: x :: l else if k = x then x :: l else x :: insN k l
def setI (ns : List Int) : List Int := ns.foldr insN []
theorem insN_mem {k j : Int} : ∀ {l : List Int}, j ∈ insN k l ↔ j = k ∨ j ∈ l
  | [] => by simp [insN]
  | x :: l => by
    unfold insN
    split
    · simp
    · split
      · rename_i h; subst h; simp
      · rw [List.mem_cons, insN_mem, List.mem_cons]
        constructor
        · rintro (h | h | h)
          · exact .inr (.inl h)
          · exact .inl h
          · exact .inr (.inr h)
        · rintro (h | h | h)
          · exact .inr (.inl h)
          · exact .inl h
          · exact .inr (.inr h)
theorem insN_sorted {k : Int} : ∀ {l : List Int}, l.Pairwise (· < ·) → (insN k l).Pairwise (· < ·)
  | [], _ => by simp [insN]
  | x :: l, h => by
    obtain ⟨h1, h2⟩ := List.pairwise_cons.mp h
    unfold insN
    split
    · rename_i z
      refine List.pairwise_cons.mpr ⟨fun y hy => ?_, h⟩
      rcases List.mem_cons.mp hy with e | e
      · rw [e]; exact z
      · exact Int.lt_trans z (h1 y e)
    · split
      · exact h
      · refine List.pairwise_cons.mpr ⟨fun y hy => ?_, insN_sorted h2⟩
        rcases insN_mem.mp hy with e | e
        · omega
        · exact h1 y e
theorem setI_mem {ns : List Int} {j : Int} : j ∈ setI ns ↔ j ∈ ns := by
  induction ns with
  | nil => simp [setI]
  | cons x l ih =>
    show j ∈ insN x (setI l) ↔ _
    rw [insN_mem, ih, List.mem_cons]
theorem setI_sorted (ns : List Int) : (setI ns).Pairwise (· < ·) := by
  induction ns with
  | nil => exact List.Pairwise.nil
  | cons x l ih => exact insN_sorted ih
theorem setI_uniq {ns ms : List Int} (h : ms.Pairwise (· < ·)) (k : ∀ j, j ∈ ms ↔ j ∈ ns) : ms = setI ns := by
  have go : ∀ (a b : List Int), a.Pairwise (· < ·) → b.Pairwise (· < ·) → (∀ j, j ∈ a ↔ j ∈ b) → a = b := by
    intro a
    induction a with
    | nil =>
      intro b _ _ e
      cases b with
      | nil => rfl
      | cons y b => exact absurd ((e y).mpr List.mem_cons_self) List.not_mem_nil
    | cons x a ih =>
      intro b ha hb e
      cases b with
      | nil => exact absurd ((e x).mp List.mem_cons_self) List.not_mem_nil
      | cons y b =>
        obtain ⟨a1, a2⟩ := List.pairwise_cons.mp ha
        obtain ⟨b1, b2⟩ := List.pairwise_cons.mp hb
        have xy : x = y := by
          rcases List.mem_cons.mp ((e x).mp List.mem_cons_self) with z | z
          · exact z
          · rcases List.mem_cons.mp ((e y).mpr List.mem_cons_self) with w | w
            · exact w.symm
            · have := a1 y w
              have := b1 x z
              omega
        subst xy
        rw [ih b a2 b2 fun j => ?_]
        constructor
        · intro hj
          rcases List.mem_cons.mp ((e j).mp (List.mem_cons_of_mem _ hj)) with z | z
          · have := a1 j hj; omega
          · exact z
        · intro hj
          rcases List.mem_cons.mp ((e j).mpr (List.mem_cons_of_mem _ hj)) with z | z
          · have := b1 j hj; omega
          · exact z
  exact go _ _ h (setI_sorted ns) fun j => (k j).trans setI_mem.symm
def intsL : List D → Option (List Int)
  | [] => some []
  | .at (.int i) :: r => (intsL r).map (i :: ·)
  | _ => none
theorem intsL_eq : ∀ {ds : List D} {ns : List Int}, intsL ds = some ns → ds = D.ints ns
  | [], ns, h => by cases h; rfl
  | .at (.int i) :: r, ns, h => by
    unfold intsL at h
    cases q : intsL r with
    | none => rw [q] at h; cases h
    | some l =>
      rw [q] at h
      cases h
      rw [intsL_eq q]
      rfl
theorem intsL_ints (ns : List Int) : intsL (D.ints ns) = some ns := by
  induction ns with
  | nil => rfl
  | cons i l ih => show (intsL (D.ints l)).map (i :: ·) = _; rw [ih]; rfl
section
variable {X : Cx} {C : Ctx} {ρ : Rho} {e : Expr} {m : MX} {pos p p2 pos2 : Pos} {ds : List D}
theorem ef_sortSet {ns : List Int} (hm : X.mg "sorted" = none) (hm2 : X.mg "set" = none) (ha : EL X C ρ e (D.ints ns)) (hl : ns.length < 64) (hc : X.calm = true := by rfl) (hg : Gl X "sorted" := by rfl) (hg2 : Gl X "set" := by rfl) (he : starEach [.Call (.Name "set" p2) [e] [] pos2] X.env = (false, eval (.Call (.Name "set" p2) [e] [] pos2) X.env) :: starEach [] X.env := by exact se_of rfl)
    (he2 : starEach [e] X.env = (false, eval e X.env) :: starEach [] X.env := by exact se_of rfl) : EF X C ρ (.Call (.Name "sorted" p) [.Call (.Name "set" p2) [e] [] pos2] [] pos) (D.ints (setI ns)) := fun σ H S Q q =>
  wpE_of (pe_callB (cr_sortedSet hc) hg hm (by decide +kernel) (pa_cons (pe_callTy (cr_setL hc) hg2 hm2 PyProof.Rows.boot_set (pa_cons pe_wp pa_nil he2) (by decide) (by decide) he2 rfl) pa_nil he) (by decide) (by decide) he rfl) (ha σ H S _ fun a xs H1 s1 l r1 => by
    have e1 := Reps.ints r1
    subst e1
    refine ⟨a, ns, rfl, l, by omega, fun p0 c np hcn => ?_⟩
    refine ⟨p0, _, c, rfl, upd_same, by omega, fun ms p1 h1 h2 h3 n1 => ?_⟩
    have em : ms = setI ns := setI_uniq h1 fun j => by rw [h2 j, decide_eq_true_eq]
    subst em
    refine q p1 _ _ ?_ (s1.trans ((same_upd np).trans (same_upd n1))) upd_same (Reps.of_ints _)
    exact s1.free ((same_upd np).free n1))
def sortSetR (ds : List D) : R RV := match intsL ds with
  | some ns => if ns.length < 64 then .ok (.fr (D.ints (setI ns))) else .bad
  | none => .bad
def eSortSet (m : MX) : MX := fun E => match m E with
  | .ok (.im (.lst ds)) => sortSetR ds
  | .ok (.fr ds) => sortSetR ds
  | .ok (.ro ds) => sortSetR ds
  | _ => .bad
theorem em_sortSet (hm : X.mg "sorted" = none) (hm2 : X.mg "set" = none) (ha : EM X e m) (hc : X.calm = true := by rfl) (hg : Gl X "sorted" := by rfl) (hg2 : Gl X "set" := by rfl) (he : starEach [.Call (.Name "set" p2) [e] [] pos2] X.env = (false, eval (.Call (.Name "set" p2) [e] [] pos2) X.env) :: starEach [] X.env := by exact se_of rfl)
    (he2 : starEach [e] X.env = (false, eval e X.env) :: starEach [] X.env := by exact se_of rfl) : EM X (.Call (.Name "sorted" p) [.Call (.Name "set" p2) [e] [] pos2] [] pos) (eSortSet m) := .mk fun C ρ => by
  unfold eSortSet
  have ha' := ha C ρ
  revert ha'
  generalize m (frOf ρ) = r
  intro ha'
  have go : ∀ ds, EL X C ρ e ds → OKV X C ρ (.Call (.Name "sorted" p) [.Call (.Name "set" p2) [e] [] pos2] [] pos) (sortSetR ds) := fun ds h => by
    unfold sortSetR
    split
    · rename_i ns q
      split
      · rename_i hl
        rw [intsL_eq q] at h
        exact ef_sortSet hm hm2 h hl hc hg hg2 he he2
      · trivial
    · trivial
  split
  · exact go _ (EE.el ha')
  · exact go _ (EF.el ha')
  · exact go _ ha'
  · trivial
theorem ev_sortSet {E : Fr} : eSortSet m E = (match m E with
  | .ok (.im (.lst ds)) => sortSetR ds
  | .ok (.fr ds) => sortSetR ds
  | .ok (.ro ds) => sortSetR ds
  | _ => .bad) := rfl
theorem sortSetR_ints {ns : List Int} (h : ns.length < 64) : sortSetR (D.ints ns) = .ok (.fr (D.ints (setI ns))) := by
  unfold sortSetR
  rw [intsL_ints]
  exact if_pos h
end
end DL

namespace DL
open PySem PySem.Spec PyProof.Rows L2
section
variable {P : Program} {w : World} {K : PySem.W.Frag} {mg : Str → Option Value} {base : Heap}
/-- of a mirror that tells nothing -/
theorem cal_none {x qual : Str} {st : Stmt} {f : Addr} {fd : FuncData} {N ps : List Str} {k : Nat} (F : Fun K x qual st f fd) (hm : mg x = some (.ref f)) (hb : Binds K fd ps []) (S : FnScope N ps (defScope st)) :
    CalX P w K mg base (k + 1) x ps (spM K ps.length fun _ => .bad) :=
  CalX.of_body F hm hb S (fun y => y.2) fun _ _ _ _ _ _ _ _ _ hy => hy.elim
end
end DL

set_option maxHeartbeats 4000000
/-! ### for a, b in x[k]: a.append(..); b.clear() / x[k].pop(): x is not looked at behind -/
namespace DL
open PySem PySem.Spec PyProof.Rows L2
section
variable {K : PySem.W.Frag} {C : Ctx} {W H H' : Hp} {σ : L2.St} {ρ : Rho}
theorem SRel.forget (S : SRel K C H σ ρ) (i : Nat) : SRel K C H σ (ρ.set i .no) ∧ Same (vis C (ows ρ) H) (vis C (ows (ρ.set i .no)) H) := by
  by_cases h : i < σ.length
  · have k := S.setNo i σ[i]
    rw [List.set_getElem_self] at k
    exact k
  · have k := S.setNo i none
    rw [List.set_eq_of_length_le (by omega)] at k
    exact k
/-- a pair of two lists, both begun by an int, short -/
def pairOk : D → Bool
  | .tup [.lst (.at (.int _) :: A), .lst (.at (.int _) :: B)] => decide (A.length ≤ 1000) && decide (B.length ≤ 1000)
  | _ => false
theorem pairOk_eq {d : D} (h : pairOk d = true) : ∃ i j A B, d = .tup [.lst (.at (.int i) :: A), .lst (.at (.int j) :: B)] ∧ A.length ≤ 1000 ∧ B.length ≤ 1000 := by
  unfold pairOk at h
  split at h
  · rw [Bool.and_eq_true] at h
    exact ⟨_, _, _, _, rfl, of_decide_eq_true h.1, of_decide_eq_true h.2⟩
  · cases h
def doomP : D → Int → Bool
  | .tup ds, k => match atI ds k with
    | some (.lst els) => !els.isEmpty && els.all pairOk && decide (els.length ≤ 1000)
    | _ => false
  | _, _ => false
theorem doomP_eq {d : D} {k : Int} (h : doomP d k = true) : ∃ ds els, d = .tup ds ∧ atI ds k = some (.lst els) ∧ els ≠ [] ∧ (∀ e ∈ els, pairOk e = true) ∧ els.length ≤ 1000 := by
  unfold doomP at h
  split at h
  · split at h
    · rename_i els q
      rw [Bool.and_eq_true, Bool.and_eq_true] at h
      exact ⟨_, els, rfl, q, fun z => by rw [z] at h; exact absurd h.1.1 (by decide), fun e he => List.all_eq_true.1 h.1.2 e he, of_decide_eq_true h.2⟩
    · cases h
  · cases h
theorem RepTs.get {ds : List D} : ∀ {n : Nat} {d : D} {xs : List V} {as : List Addr}, RepTs K W H xs ds as → ds[n]? = some d → ∃ v bs, xs[n]? = some v ∧ RepT K W H v d bs ∧ ∀ b ∈ bs, b ∈ as := by
  induction ds with
  | nil => intro n d xs as r h; simp at h
  | cons d' ds ih =>
    intro n d xs as r h
    cases r with
    | cons r t =>
      cases n with
      | zero =>
        have e : d' = d := by simpa using h
        subst e
        exact ⟨_, _, rfl, r, fun b hb => List.mem_append_left _ hb⟩
      | succ n =>
        obtain ⟨v, bs, h1, h2, h3⟩ := ih t (by simpa using h)
        exact ⟨v, bs, by simpa using h1, h2, fun b hb => List.mem_append_right _ (h3 b hb)⟩
/-- what the loop's items are -/
theorem pair_rep {d : D} {v : V} {as : List Addr} (r : RepT K W H v d as) (h : pairOk d = true) (vi : Same W H) : ∃ t a b i j xs ys, v = .ref t ∧ H t = some (.tup [.ref a, .ref b]) ∧ a ∈ as ∧ b ∈ as ∧ H a = some (.lst (.int i :: xs)) ∧ H b = some (.lst (.int j :: ys)) ∧ xs.length ≤ 1000 ∧ ys.length ≤ 1000 := by
  obtain ⟨i, j, A, B, rfl, hA, hB⟩ := pairOk_eq h
  have lst : ∀ {v : V} {i : Int} {A : List D} {as : List Addr}, RepT K W H v (.lst (.at (.int i) :: A)) as → ∃ a xs, v = .ref a ∧ a ∈ as ∧ H a = some (.lst (.int i :: xs)) ∧ xs.length = A.length := fun {v i A as} r => by
    cases r with
    | leaf _ n => cases n
    | lst s r =>
      cases r with
      | cons r1 r2 =>
        cases r1 with
        | leaf r n => cases r; exact ⟨_, _, rfl, List.mem_cons_self, s, RepTs.length r2⟩
  cases r with
  | leaf _ n => cases n
  | tup s r =>
    cases r with
    | cons r1 r2 =>
      cases r2 with
      | cons r2 r3 =>
        cases r3
        obtain ⟨a, xs, rfl, a2, a3, a4⟩ := lst r1
        obtain ⟨b, ys, rfl, b2, b3, b4⟩ := lst r2
        exact ⟨_, a, b, i, j, xs, ys, rfl, vi _ _ s, List.mem_append_left _ a2, List.mem_append_right _ (List.mem_append_left _ b2), a3, b3, by omega, by omega⟩
end
section
variable {X : Cx} {C : Ctx} {ρ ρ' : Rho} {e b : Expr} {es : List Expr} {m mk m1 m2 mj : MX} {pos p : Pos} {P : Post} {st1 st2 : Stmt} {rest : List Stmt}
def sDoomFor (i ia ib : Nat) (k : Int) (f : Fr → O) : Fr → O := fun E => match nthS E i with
  | .ot d => if doomP d k = true ∧ ia < E.length ∧ ib < E.length then f (setS (setS (setS E i .no) ia .no) ib .no) else .bad
  | _ => .bad
theorem bm_doomFor (i ia ib : Nat) (k : Int) {n1 : Int} {f : Fr → O} {x xa xb : Str} {p1 p2 p3 p4 p5 p6 p7 p8 p9 q1 q2 q3 q4 q5 q6 q7 r1 r2 r3 r4 r5 : Pos} {kt kc kd ke : Nat}
    (h : BM X rest f) (hp : PassesOwn (model X.prog X.w) X.A X.env X.xe) (hN : X.N.Nodup) (hi : X.N[i]? = some x := by rfl) (hia : X.N[ia]? = some xa := by rfl) (hib : X.N[ib]? = some xb := by rfl)
    (n12 : i ≠ ia := by decide) (n13 : i ≠ ib := by decide) (n23 : ia ≠ ib := by decide)
    (hv : Vis X.env.scope x := by first | exact Or.inl rfl | exact Or.inr (Or.inl rfl) | exact Or.inr (Or.inr rfl)) (hva : Vis X.env.scope xa := by first | exact Or.inl rfl | exact Or.inr (Or.inl rfl) | exact Or.inr (Or.inr rfl)) (hvb : Vis X.env.scope xb := by first | exact Or.inl rfl | exact Or.inr (Or.inl rfl) | exact Or.inr (Or.inr rfl))
    (hxa : Loc X.env.scope xa := by first | exact Or.inl rfl | exact Or.inr rfl) (hxb : Loc X.env.scope xb := by first | exact Or.inl rfl | exact Or.inr rfl)
    (hfa : X.fn xa = true ∨ X.env.scope.names.lookup xa = some .local := by first | exact .inl rfl | exact .inr rfl) (hfb : X.fn xb = true ∨ X.env.scope.names.lookup xb = some .local := by first | exact .inl rfl | exact .inr rfl)
    (hd : (x == ("__debug__" : Str)) = false := by decide) (hcd : (x == ("__classdict__" : Str)) = false := by decide) (hda : (xa == ("__debug__" : Str)) = false := by decide) (hcda : (xa == ("__classdict__" : Str)) = false := by decide) (hdb : (xb == ("__debug__" : Str)) = false := by decide) (hcdb : (xb == ("__classdict__" : Str)) = false := by decide)
    (hc : X.calm = true := by rfl) (hf : ∀ y, foldedSetIterable (.Subscript (.Name x p1) (.Constant (.int k) kc p2) p3) X.env y = pure y := by intro _; rfl)
    (hpk : PlainIx (.Constant (.int k) kc p2) := by intro _ _; rfl) (hpk2 : PlainIx (.Constant (.int k) ke r2) := by intro _ _; rfl)
    (hg1 : (assignEach [.Name xa p4, .Name xb p5] X.env).map (·.2) = assign (.Name xa p4) X.env :: (assignEach [.Name xb p5] X.env).map (·.2) := by rfl) (hg2 : (assignEach [.Name xb p5] X.env).map (·.2) = assign (.Name xb p5) X.env :: (assignEach [] X.env).map (·.2) := by rfl)
    (hgn : (assignEach [.Name xa p4, .Name xb p5] X.env).length = 2 := by rfl) (hgs : (assignEach [.Name xa p4, .Name xb p5] X.env).findIdx? (·.1) = none := by rfl)
    (hs1 : swapsWith (.Call (.Attribute (.Name xa q1) "append" q2) [.Constant (.int n1) kd q3] [] q4) none q5.line X.env = pure false := by rfl)
    (hfew : ((backTo q4 (starEach [.Constant (.int n1) kd q3] X.env)).all (fun x => !x.1) && (backToKw q4 (keywordEach [] X.env)).all (fun x => x.1.isSome) && decide (([Expr.Constant (.int n1) kd q3]).length + ([] : List Keyword).length + (if ([] : List Keyword).isEmpty then 0 else 1) < 30)) = true := by rfl)
    (hl1 : (q2.endLine == q4.line) = true := by rfl) (he1 : starEach [.Constant (.int n1) kd q3] X.env = (false, eval (.Constant (.int n1) kd q3) X.env) :: starEach [] X.env := by exact se_of rfl)
    (hs2 : swapsWith (.Call (.Attribute (.Name xb q6) "clear" q7) [] [] p7) none p8.line X.env = pure false := by rfl) (hl2 : (q7.endLine == p7.line) = true := by rfl)
    (hs3 : swapsWith (.Call (.Attribute (.Subscript (.Name x r1) (.Constant (.int k) ke r2) r3) "pop" r4) [] [] r5) none p9.line X.env = pure false := by rfl)
    (hbase : attributeBase (.Subscript (.Name x r1) (.Constant (.int k) ke r2) r3) "pop" X.env (eval (.Subscript (.Name x r1) (.Constant (.int k) ke r2) r3) X.env) = eval (.Subscript (.Name x r1) (.Constant (.int k) ke r2) r3) X.env := by rfl) (hl3 : (r4.endLine == r5.line) = true := by rfl) :
    BM X (.For (.Tuple [.Name xa p4, .Name xb p5] kt p6) (.Subscript (.Name x p1) (.Constant (.int k) kc p2) p3)
        [.Expr (.Call (.Attribute (.Name xa q1) "append" q2) [.Constant (.int n1) kd q3] [] q4) q5, .Expr (.Call (.Attribute (.Name xb q6) "clear" q7) [] [] p7) p8] [] pos ::
      .Expr (.Call (.Attribute (.Subscript (.Name x r1) (.Constant (.int k) ke r2) r3) "pop" r4) [] [] r5) p9 :: rest) (sDoomFor i ia ib k f) := .mk fun C ρ P ok => by
  unfold sDoomFor at ok
  split at ok
  · rename_i d q
    split at ok
    · rename_i z
      obtain ⟨z, zl⟩ := z
      obtain ⟨ds, els, rfl, a1, ne, all, le⟩ := doomP_eq z
      obtain ⟨as, hr⟩ := nth_ot q
      intro σ H D S L
      obtain ⟨v, hσ, r0⟩ := S.ot i as _ hr
      have got : ∃ p xs, v = .ref p ∧ H p = some (.tup xs) ∧ RepTs X.K (vis C (ows ρ) H) H xs ds as := by
        cases r0 with
        | leaf r n =>
          cases r with
          | tup sq rs => exact ⟨_, _, rfl, S.visIn _ _ sq, RepTs.leaves n rs⟩
        | tup sq rs => exact ⟨_, _, rfl, S.visIn _ _ sq, rs⟩
      obtain ⟨p, xs, rfl, hpp, rs⟩ := got
      -- the list that is walked
      have gotL : ∃ L0 vs bs, atI xs k = some (.ref L0) ∧ L0 ∈ as ∧ H L0 = some (.lst vs) ∧ RepTs X.K (vis C (ows ρ) H) H vs els bs ∧ ∀ b ∈ bs, b ∈ as := by
        unfold atI at a1 ⊢
        rw [RepTs.length rs]
        cases hq : ixN ds.length k with
        | none => rw [hq] at a1; cases a1
        | some n =>
          rw [hq] at a1
          obtain ⟨v, bs, h1, h2, h3⟩ := rs.get a1
          cases h2 with
          | leaf _ nn =>
            cases nn
          | lst s r => exact ⟨_, _, _, h1, h3 _ List.mem_cons_self, s, r, fun b hb => h3 b (List.mem_cons_of_mem _ hb)⟩
      obtain ⟨L0, vs, bs, g1, g2, g3, g4, g5⟩ := gotL
      have lv : vs.length = els.length := RepTs.length g4
      have items : ∀ n (hn : n < els.length), ∃ t a b i j xs ys, vs[n]? = some (.ref t) ∧ H t = some (.tup [.ref a, .ref b]) ∧ a ∈ as ∧ b ∈ as ∧ H a = some (.lst (.int i :: xs)) ∧ H b = some (.lst (.int j :: ys)) ∧ xs.length ≤ 1000 ∧ ys.length ≤ 1000 := fun n hn => by
        obtain ⟨v, cs, h1, h2, h3⟩ := g4.get (List.getElem?_eq_getElem hn)
        obtain ⟨t, a, b, i, j, xs, ys, rfl, e1, e2, e3, e4⟩ := pair_rep h2 (all _ (List.getElem_mem hn)) S.visIn
        exact ⟨t, a, b, i, j, xs, ys, h1, e1, g5 a (h3 a e2), g5 b (h3 b e3), e4⟩
      have el0 : 0 < els.length := List.length_pos_iff.2 ne
      obtain ⟨t0, _, _, _, _, _, _, hv0, _⟩ := items 0 el0
      have hne : ∀ {c : Addr} {i : Int} {ys : List V}, H c = some (.lst (.int i :: ys)) → c ≠ L0 := fun {c i ys} hc z => by
        rw [z, g3] at hc
        injection hc with hc
        injection hc with hc
        rw [hc] at hv0
        simp at hv0
      -- what stands throughout
      have isl : ∀ a ∈ as, ∃ xs, H a = some (.lst xs) := RepT.isl _ r0
      obtain ⟨PM, hPM⟩ : ∃ PM : Addr → Prop, PM = fun c => c ∈ as ∧ c ≠ L0 ∧ ∃ ys, H c = some (.lst ys) ∧ ys.length ≤ 2000 := ⟨_, rfl⟩
      obtain ⟨S0, s0⟩ := S.hideOt hr
      obtain ⟨S1, s1⟩ := S0.forget ia
      obtain ⟨S2, s2⟩ := S1.forget ib
      obtain ⟨ρe, hρe⟩ : ∃ ρe, ρe = ((ρ.set i .no).set ia .no).set ib .no := ⟨_, rfl⟩
      obtain ⟨Ch, hCh⟩ : ∃ Ch : Ctx, Ch = { C with hid := as ++ C.hid } := ⟨_, rfl⟩
      rw [← hρe] at S2 s2
      rw [← hCh] at S0 s0 S1 s1 S2 s2
      have fE : frOf ρe = setS (setS (setS (frOf ρ) i .no) ia .no) ib .no := by rw [hρe, frOf_set, frOf_set, frOf_set]; rfl
      have v0 : Same (vis C (ows ρ) H) (vis Ch (ows ρe) H) := s0.trans (s1.trans s2)
      have hidm : ∀ {c}, c ∈ as → c ∈ Ch.hid := fun hc => by rw [hCh]; exact List.mem_append_left _ hc
      have eno : ∀ {σ' : L2.St} {H' : Hp}, SRel X.K Ch H' σ' ρe → ∀ (x y : Option V), SRel X.K Ch H' ((σ'.set ia x).set ib y) ρe ∧ Same (vis Ch (ows ρe) H') (vis Ch (ows ρe) H') := fun {σ' H'} S' x y => by
        obtain ⟨A1, A2⟩ := S'.setNo ia x
        obtain ⟨B1, B2⟩ := A1.setNo ib y
        have e : (ρe.set ia .no).set ib .no = ρe := by
          have e2 : ρe.set ia .no = ρe := by
            rw [hρe, List.set_comm _ _ n23.symm, List.set_set]
          rw [e2, hρe, List.set_set]
        rw [e] at B1
        exact ⟨B1, Same.refl _⟩
      obtain ⟨J, hJ⟩ : ∃ J : Nat → L2.St → Hp → Prop, J = fun n σ' H' => SRel X.K Ch H' σ' ρe ∧ Same (vis C (ows ρ) H) (vis Ch (ows ρe) H') ∧ σ'[i]? = some (some (.ref p)) ∧ (∀ q o, q ∉ as → H q = some o → H' q = some o) ∧ H' L0 = some (.lst vs) ∧ ∀ c, PM c → ∃ ys, H' c = some (.lst ys) ∧ ys.length ≤ 2000 + n := ⟨_, rfl⟩
      have npas : ∀ {q : Addr} {xs : List V}, H q = some (.tup xs) → q ∉ as := fun {q xs} hq m => by
        obtain ⟨ys, e⟩ := isl q m
        rw [e] at hq; cases hq
      have J0 : ∀ {H1 : Hp}, Same H H1 → J 0 σ H1 := fun {H1} e => by
        rw [hJ]
        refine ⟨S2.same e, v0.trans (vis_same e), hσ, fun q o _ h => e _ _ h, e _ _ g3, fun c hc => ?_⟩
        rw [hPM] at hc
        obtain ⟨_, _, ys, h1, h2⟩ := hc
        exact ⟨ys, e _ _ h1, by omega⟩
      refine wpSs_of (pss_cons (ps_for hp hc (pi_list (pe_ix ix_tup (pe_var hi hv hd hcd) pe_wp hpk)) (pg_tup hc (pgs_cons (pg_name hN hia hxa hfa) (pgs_cons (pg_name hN hib hxb hfb) pgs_nil hg2) hg1) hgn hgs)
        (pss_cons (ps_expr (pe_bm PySem.F.plainAttrs_list PySem.F.slot_list_append PySem.F.type_list_append mt_append (pe_var hia hva hda hcda) (pa_cons pe_wp pa_nil he1) rfl hfew hl1 he1 rfl) hs1)
          (pss_cons (ps_expr (pe_bm0 PySem.F.plainAttrs_list PySem.F.slot_list_clear PySem.F.type_list_clear mt_clear (pe_var hib hvb hdb hcdb) rfl hl2) hs2) pss_nil)) hf) pss_wp) ?_
      refine ⟨_, hσ, (ee_int (C := C) (ρ := ρ)) σ H S _ fun w H1 e1 rr => ?_⟩
      cases rr
      refine ⟨p, xs, k, .ref L0, rfl, rfl, tq (e1 _ _ hpp), g1, ?_⟩
      refine ⟨L0, rfl, ⟨vs, .inl (.inl (e1 _ _ g3))⟩, ?_⟩
      refine ⟨fun n m σ' H' => n + m = els.length ∧ J n σ' H', ⟨els.length, by omega, J0 e1⟩, ?_⟩
      rintro n m σ2 H2 ⟨em, hJn⟩
      have hJ2 := hJn
      rw [hJ] at hJ2
      obtain ⟨T1, T2, T3, T4, T5, T6⟩ := hJ2
      have sq2 : SqL X.K H2 L0 vs := .inl (.inl T5)
      by_cases hlt : n < els.length
      · obtain ⟨t, a, b, i', j', xa', xb', e0, e2, e3, e4', e5, e6, e7, e8⟩ := items n hlt
        have pa : PM a := by rw [hPM]; exact ⟨e3, hne e5, _, e5, by rw [List.length_cons]; omega⟩
        have pb : PM b := by rw [hPM]; exact ⟨e4', hne e6, _, e6, by rw [List.length_cons]; omega⟩
        refine .inr ⟨⟨vs, _, sq2, e0⟩, fun σ' H' => J (n + 1) σ' H', fun σ' H' hJ' => ⟨m - 1, by omega, by omega, hJ'⟩, fun y H3 yy => ?_⟩
        obtain ⟨rfl, yy⟩ := yy
        cases e0.symm.trans (yy vs sq2)
        have tt : H3 t = some (.tup [.ref a, .ref b]) := T4 _ _ (npas e2) e2
        refine ⟨t, _, rfl, tq tt, rfl, ?_⟩
        refine ⟨_, _, rfl, ?_⟩
        refine ⟨_, _, rfl, ?_⟩
        refine ⟨rfl, ?_⟩
        obtain ⟨U1, _⟩ := eno T1 (some (.ref a)) (some (.ref b))
        have lσ : ia < σ2.length ∧ ib < σ2.length := by
          have l1 := T1.len
          have l2 : (frOf ρ).length = ρ.length := List.length_map ..
          rw [hρe, List.length_set, List.length_set, List.length_set] at l1
          omega
        have sa : ((σ2.set ia (some (.ref a))).set ib (some (.ref b)))[ia]? = some (some (.ref a)) := by
          rw [List.getElem?_set_ne n23.symm, List.getElem?_set_self lσ.1]
        have sb : ((σ2.set ia (some (.ref a))).set ib (some (.ref b)))[ib]? = some (some (.ref b)) := by
          rw [List.getElem?_set_self (by rw [List.length_set]; exact lσ.2)]
        have si : ((σ2.set ia (some (.ref a))).set ib (some (.ref b)))[i]? = some (some (.ref p)) := by
          rw [List.getElem?_set_ne n13.symm, List.getElem?_set_ne n12.symm]; exact T3
        obtain ⟨ya, ha1, ha2⟩ := T6 a pa
        refine ⟨_, sa, .inl ⟨rfl, _, .inl (.inl ha1)⟩, (ee_int (C := Ch) (ρ := ρe)) _ H3 U1 _ fun w H4 e4 rr => ?_⟩
        cases rr
        refine ⟨a, ya, _, rfl, rfl, e4 _ _ ha1, by rw [sizeLine_eq]; omega, ?_⟩
        have W1 := (U1.same e4).updHid (D := a) (o := .lst (ya ++ [.int n1])) (hidm e3) (by rw [e4 _ _ ha1]; rfl) rfl
        have w1 : vis Ch (ows ρe) (upd H4 a (.lst (ya ++ [.int n1]))) = vis Ch (ows ρe) H4 := vis_hid (hidm e3) (by rw [e4 _ _ ha1]; rfl) rfl
        have cb : ∃ yb, upd H4 a (.lst (ya ++ [.int n1])) b = some (.lst yb) := by
          by_cases z : b = a
          · exact ⟨_, by rw [z]; exact upd_same⟩
          · obtain ⟨yb, hb1, _⟩ := T6 b pb
            exact ⟨yb, by rw [upd_ne z]; exact e4 _ _ hb1⟩
        obtain ⟨yb, hb⟩ := cb
        refine ⟨_, sb, .inl ⟨rfl, _, .inl (.inl hb)⟩, ⟨b, yb, rfl, rfl, hb, ?_⟩⟩
        have W2 := W1.updHid (D := b) (o := .lst []) (hidm e4') (by rw [hb]; rfl) rfl
        have w2 : vis Ch (ows ρe) (upd (upd H4 a (.lst (ya ++ [.int n1]))) b (.lst [])) = vis Ch (ows ρe) (upd H4 a (.lst (ya ++ [.int n1]))) := vis_hid (hidm e4') (by rw [hb]; rfl) rfl
        show J (n + 1) _ _
        rw [hJ]
        refine ⟨W2, ?_, si, fun q o hq h => ?_, ?_, fun c hc => ?_⟩
        · rw [w2, w1]
          exact T2.trans (vis_same e4)
        · rw [upd_ne (fun z => hq (by rw [z]; exact e4')), upd_ne (fun z => hq (by rw [z]; exact e3))]
          exact e4 _ _ (T4 q o hq h)
        · rw [upd_ne (hne e6).symm, upd_ne (hne e5).symm]
          exact e4 _ _ T5
        · by_cases zb : c = b
          · exact ⟨[], by rw [zb]; exact upd_same, by simp⟩
          · by_cases za : c = a
            · exact ⟨ya ++ [.int n1], by rw [upd_ne zb, za]; exact upd_same, by rw [List.length_append]; simp; omega⟩
            · obtain ⟨yc, hc1, hc2⟩ := T6 c hc
              exact ⟨yc, by rw [upd_ne zb, upd_ne za]; exact e4 _ _ hc1, by omega⟩
      · have e : n = els.length := by omega
        refine .inl ⟨⟨vs, sq2, by rw [lv]; omega⟩, ?_⟩
        refine wpSs_of (pss_cons (ps_expr (pe_bm0 PySem.F.plainAttrs_list PySem.F.slot_list_pop PySem.F.type_list_pop mt_pop (pe_ix ix_tup (pe_var hi hv hd hcd) pe_wp hpk2) hbase hl3) hs3) pss_wp) ?_
        refine ⟨_, T3, (ee_int (C := Ch) (ρ := ρe)) σ2 H2 T1 _ fun w H4 e4 rr => ?_⟩
        cases rr
        refine ⟨p, xs, k, .ref L0, rfl, rfl, tq (e4 _ _ (T4 _ _ (npas hpp) hpp)), g1, ?_⟩
        have h4 : H4 L0 = some (.lst vs) := e4 _ _ T5
        refine ⟨.inl ⟨rfl, _, .inl (.inl h4)⟩, ?_⟩
        have vne : vs ≠ [] := fun z => by rw [z] at lv; simp at lv; omega
        have hlast : vs[vs.length - 1]? = some (vs.getLast vne) := by rw [List.getLast_eq_getElem, List.getElem?_eq_getElem]
        refine ⟨L0, vs, vs.getLast vne, rfl, rfl, h4, hlast, ?_⟩
        have W1 := (T1.same e4).updHid (D := L0) (o := .lst vs.dropLast) (hidm g2) (by rw [h4]; rfl) rfl
        have w1 : vis Ch (ows ρe) (upd H4 L0 (.lst vs.dropLast)) = vis Ch (ows ρe) H4 := vis_hid (hidm g2) (by rw [h4]; rfl) rfl
        rw [hCh] at W1
        obtain ⟨W2, w2⟩ := W1.unhide
        refine h.run C ρe P (by rw [fE]; exact ok) σ2 _ D W2 (L.later ?_)
        refine Same.trans ?_ w2
        rw [← hCh, w1]
        exact T2.trans (vis_same e4)
    · exact ok.elim
  · exact ok.elim
end
end DL

set_option maxHeartbeats 4000000
/-! ### len(set(a list of ints)) -/
namespace DL
open PySem PySem.Spec PyProof.Rows L2
theorem insN_len {k : Int} : ∀ {l : List Int}, k ∉ l → (insN k l).length = l.length + 1
  | [], _ => rfl
  | x :: l, h => by
    have h1 : k ≠ x := fun z => h (by rw [z]; exact List.mem_cons_self)
    have h2 : k ∉ l := fun z => h (List.mem_cons_of_mem _ z)
    unfold insN
    split
    · rfl
    · first | rw [if_neg h1, List.length_cons, insN_len h2, List.length_cons] | rw [List.length_cons, insN_len h2, List.length_cons]
theorem setI_len {ns : List Int} (h : ns.Nodup) : (setI ns).length = ns.length := by
  induction ns with
  | nil => rfl
  | cons x l ih =>
    obtain ⟨h1, h2⟩ := List.nodup_cons.mp h
    show (insN x (setI l)).length = _
    rw [insN_len (fun z => h1 (setI_mem.mp z)), ih h2]; rfl
theorem setI_same {ns ms : List Int} (h : ∀ j, j ∈ ns ↔ j ∈ ms) : setI ns = setI ms := setI_uniq (setI_sorted ns) fun j => setI_mem.trans (h j)
section
variable {X : Cx} {C : Ctx} {ρ : Rho} {e : Expr} {m : MX} {pos p p2 pos2 : Pos} {ds : List D}
def tLenS (K : PySem.W.Frag) (ta : TE) : TE := fun σ H Q => ta σ H fun x H1 => ∃ l, ∃ ns : List Int, x = .ref l ∧ SqL K H1 l (ns.map V.int) ∧ ns.length ≤ 1000 ∧ Q (.int (setI ns).length) H1
theorem pe_lenS {ta : TE} (hm : X.mg "len" = none) (hm2 : X.mg "set" = none) (ha : PE X e ta) (hc : X.calm = true := by rfl) (hg : Gl X "len" := by rfl) (hg2 : Gl X "set" := by rfl)
    (na : starEach [e] X.env = (false, eval e X.env) :: starEach [] X.env := by exact se_of rfl) : PE X (.Call (.Name "len" p) [.Call (.Name "set" p2) [e] [] pos2] [] pos) (tLenS X.K ta) := by
  refine ⟨fun pins s σ H Q I h => ?_⟩
  refine Call_ (ld_blt I hg hm boot_len ?_)
  refine PyProof.Rows.callWith_builtin1 (PyProof.Rows.args_cons ?_ rfl) rfl rfl
  refine Call_ (ld_blt I hg2 hm2 boot_set ?_)
  refine PyProof.Rows.callWith_type1 (PyProof.Rows.args_cons (thn (ha.run pins s σ H _ I h) fun v s1 ⟨x, H1, I1, r1, q1⟩ => PyProof.Rows.args_nil ?_) na) na rfl
  obtain ⟨l, ns, rfl, hq, h1, q1⟩ := q1
  cases r1
  obtain ⟨its, r, pl, hz⟩ := I1.list hq
  refine set_of_list ns (I1.ok.hd hc) pl.isList (by simpa using r.ints) (by unfold scanBound; omega) fun h' tk c R hc' k => ?_
  refine PyProof.Rows.args_nil ?_
  obtain ⟨o, es, ep, t, ho, hex, hd, _, nd, mem, sb, hf, hn, _⟩ := R
  have I2 : Inv X pins σ H1 { s1 with heap := h', toks := tk } := I1.kept fun b o e => k b o e
  have eq : es.size = (setI ns).length := by
    have e1 : setI (es.toList.map keyOf) = setI ns := setI_same fun j => by rw [← mem j, decide_eq_true_eq]
    rw [← e1, setI_len nd, List.length_map, Array.length_toList]
  refine call_len_set ho hex hd hf (by unfold scanBound at sb; omega) ⟨.int (setI ns).length, H1, I2.tok _, ⟨_, by rw [eq]⟩, q1⟩
def lenSetR (ds : List D) : R RV := match intsL ds with
  | some ns => if ns.length ≤ 1000 then .ok (.im (.int (setI ns).length)) else .bad
  | none => .bad
def eLenSet (m : MX) : MX := fun E => match m E with
  | .ok (.im (.lst ds)) => lenSetR ds
  | .ok (.fr ds) => lenSetR ds
  | .ok (.ro ds) => lenSetR ds
  | _ => .bad
theorem em_lenSet (hm : X.mg "len" = none) (hm2 : X.mg "set" = none) (ha : EM X e m) (hc : X.calm = true := by rfl) (hg : Gl X "len" := by rfl) (hg2 : Gl X "set" := by rfl)
    (he2 : starEach [e] X.env = (false, eval e X.env) :: starEach [] X.env := by exact se_of rfl) : EM X (.Call (.Name "len" p) [.Call (.Name "set" p2) [e] [] pos2] [] pos) (eLenSet m) := .mk fun C ρ => by
  unfold eLenSet
  have ha' := ha C ρ
  revert ha'
  generalize m (frOf ρ) = r
  intro ha'
  have go : ∀ ds, EL X C ρ e ds → OKV X C ρ (.Call (.Name "len" p) [.Call (.Name "set" p2) [e] [] pos2] [] pos) (lenSetR ds) := fun ds h => by
    unfold lenSetR
    split
    · rename_i ns q
      split
      · rename_i hl
        rw [intsL_eq q] at h
        intro σ H S Q q2
        refine wpE_of (pe_lenS hm hm2 pe_wp hc hg hg2 he2) (h σ H S _ fun a xs H1 s1 l r1 => ?_)
        have e1 := Reps.ints r1
        subst e1
        exact ⟨a, ns, rfl, l, hl, q2 _ H1 s1 (.at _)⟩
      · trivial
    · trivial
  split
  · exact go _ (EE.el ha')
  · exact go _ (EF.el ha')
  · exact go _ ha'
  · trivial
theorem lenSetR_ints {ns : List Int} (h : ns.length ≤ 1000) : lenSetR (D.ints ns) = .ok (.im (.int (setI ns).length)) := by
  unfold lenSetR
  rw [intsL_ints]
  exact if_pos h
end
end DL

set_option maxHeartbeats 4000000
/-! ### new trees: by a comprehension, handed back by a def, made while a tree is lent -/
namespace DL
open PySem PySem.Spec PyProof.Rows L2
theorem vis_gen {C : Ctx} {o1 o2 h1 h2 : List Addr} {H : Hp} (h : ∀ b, b ∈ o2 ∨ b ∈ h2 → b ∈ o1 ∨ b ∈ h1) : Same (vis { C with hid := h1 } o1 H) (vis { C with hid := h2 } o2 H) := fun b x hb => by
  unfold vis at hb ⊢
  split at hb
  · rename_i q
    rw [if_pos q]
    exact hb
  · rename_i q
    rw [if_neg q]
    split at hb
    · cases hb
    · rename_i z
      rw [if_neg fun m => z ⟨h b m.1, m.2⟩]
      exact hb
section
variable {K : PySem.W.Frag} {W W' H : Hp}
theorem allFl_snoc {d : D} : ∀ {ds : List D}, D.allFl (ds ++ [d]) = true → D.allFl ds = true ∧ d.isFl = true
  | [], h => ⟨rfl, ((Bool.and_eq_true _ _).mp h).1⟩
  | x :: ds, h => by
    have g := (Bool.and_eq_true _ _).mp h
    have k := allFl_snoc g.2
    exact ⟨(Bool.and_eq_true _ _).mpr ⟨g.1, k.1⟩, k.2⟩
theorem RepTs.snoc {v : V} {d : D} {bs : List Addr} (r : RepT K W H v d bs) : ∀ {ds : List D} {vs : List V} {as : List Addr}, RepTs K W H vs ds as → RepTs K W H (vs ++ [v]) (ds ++ [d]) (as ++ bs)
  | [], _, _, .nil => by
    have := RepTs.cons r .nil
    rw [List.append_nil] at this
    exact this
  | d' :: ds, _, _, .cons r' t => by
    rw [List.append_assoc]
    exact .cons r' (RepTs.snoc r t)
end
section
variable {X : Cx} {C : Ctx} {ρ ρ' : Rho} {e b c tg iter elt : Expr} {es : List Expr} {m mk mj : MX} {pos p : Pos} {P : Post} {x1 : Nat} {scope : Scope} {own : List (Str × Nat)}
/-! ### while a tree is lent -/
def xBor (j : Nat) (m : Fr → R D) : Fr → R D := fun E => m (thaw E j)
theorem xm_bor (j : Nat) {xm : Fr → R D} (h : XM X e xm) : XM X e (xBor j xm) := .mk fun C ρ d q => by
  unfold xBor thaw at q
  split at q
  · rename_i d' q1
    obtain ⟨as, hr⟩ := nth_ot q1
    have h' := h.run C (ρ.set j (.im d')) d (by rw [frOf_set]; exact q)
    exact fun σ H S Q k => h' σ H (S.thaw j hr).1 Q fun v bs H1 n1 s1 r1 => k v bs H1 n1 s1 (RepT.tupl (tupl_thaw S hr s1 bs) _ r1)
  · exact h.run C ρ d q
/-! ### [.. for .. in ..] -/
structure XcM (X : Cx) (scope : Scope) (own : List (Str × Nat)) (tg elt : Expr) (g : D → R (List (Nat × D))) (m : Fr → R D) : Prop where
  gt : ∃ L, (∀ j ∈ L, j ∈ own.map (·.2)) ∧ ∀ X', Blk X scope X' → GM X' tg g L
  el : ∀ X', Blk X scope X' → XM X' elt m
def xlc1 (g : D → R (List (Nat × D))) (m : Fr → R D) (E : Fr) (d : D) : R D := match g d with
  | .ok ss => m (setsF E ss)
  | _ => .bad
def xlcN (h : D → R D) : List D → R (List D)
  | [] => .ok []
  | d :: ds => consR (h d) (xlcN h ds)
def xLc (js : List Nat) (g : D → R (List (Nat × D))) (mi : Fr → R (List D)) (m : Fr → R D) : Fr → R D := fun E => match mi E with
  | .ok ds => if freeS E js = true ∧ ds.length ≤ sizeLine then (match xlcN (xlc1 g m (wipeF E js)) ds with
    | .ok vs => .ok (.lst vs)
    | _ => .bad) else .bad
  | _ => .bad
theorem xlcN_at {h : D → R D} : ∀ {ds vs : List D}, xlcN h ds = .ok vs → vs.length = ds.length ∧ ∀ (i : Nat) (d : D), ds[i]? = some d → ∃ v, vs[i]? = some v ∧ h d = .ok v
  | [], vs, q => by cases q; exact ⟨rfl, fun i d hd => by simp at hd⟩
  | d :: ds, vs, q => by
    obtain ⟨v, ws, h1, h2, rfl⟩ := consR_ok' q
    obtain ⟨l, k⟩ := xlcN_at h2
    refine ⟨by rw [List.length_cons, l, List.length_cons], fun i d' hd => ?_⟩
    cases i with
    | zero =>
      have e : d = d' := by simpa using hd
      subst e
      exact ⟨v, rfl, h1⟩
    | succ i =>
      obtain ⟨v', a, b⟩ := k i d' (by simpa using hd)
      exact ⟨v', by simpa using a, b⟩
def cX (X : Cx) (scope : Scope) (elt : Expr) : TE := fun σ H Q => ∃ (C : Ctx) (ρ : Rho) (d : D), SRel X.K C H σ ρ ∧ (∀ X', Blk X scope X' → EFt X' C ρ elt d) ∧ ∀ v as H', (∀ a ∈ as, H a = none) → Same H H' → RepT X.K (vis C (as ++ ows ρ) H') H' v d as → Q v H'
theorem cX_ok (s : Shared) (H : Hp) (c : Addr) (cl : List (Str × Addr)) (fp : List Addr) : PE (X.blk s H scope (compEnvC scope cl c X.env) fp) elt (cX X scope elt) := ⟨fun pins s' σ H' Q I ⟨C, ρ, d, S, hg, q⟩ => hg _ ⟨s, H, c, cl, fp, rfl⟩ σ H' S Q q pins s' I⟩
theorem xlc_reading {ds vs : List D} {g : D → R (List (Nat × D))} {xm : Fr → R D} {σ : L2.St} {H : Hp} (S : SRel X.K C H σ ρ) (hi : EI X C ρ tg iter ds) (hfr : freeS (frOf ρ) (own.map (·.2)) = true) (hz : ds.length ≤ sizeLine)
    (hp : XcM X scope own tg elt g xm) (hq : xlcN (xlc1 g xm (wipeF (frOf ρ) (own.map (·.2)))) ds = .ok vs) {Q : VK} (q : ∀ v as H', (∀ a ∈ as, H a = none) → Same H H' → RepT X.K (vis C (as ++ ows ρ) H') H' v (.lst vs) as → Q v H') :
    tLc (wpI X tg iter) (cG X scope tg) (cT X scope []) (cX X scope elt) (own.map (·.2)) σ H Q := by
  obtain ⟨lv, at_⟩ := xlcN_at hq
  obtain ⟨how, ofree⟩ := ows_wipeR hfr
  obtain ⟨L, hL, hg⟩ := hp.gt
  obtain ⟨ρw, hρw⟩ : ∃ ρw, ρw = wipeR ρ (own.map (·.2)) := ⟨_, rfl⟩
  have fw : frOf ρw = wipeF (frOf ρ) (own.map (·.2)) := by rw [hρw, frOf_wipe]
  rw [← hρw] at how ofree
  rw [← fw] at at_
  refine hi σ H S _ fun J H1 s1 y1 D nD => ?_
  have S1 := S.same s1
  obtain ⟨Sh, vh⟩ := S1.hide (o := .lst []) nD
  have Sw : SRel X.K { C with hid := D :: C.hid } (upd H1 D (.lst [])) (wipe σ (own.map (·.2))) ρw := hρw ▸ Sh.wiped _
  obtain ⟨G, hG⟩ : ∃ G : Nat → Hp → Prop, G = fun i H' => ∃ acc as hs, H' D = some (.lst acc) ∧ (∀ a ∈ as, H1 a = none ∧ a ≠ D) ∧ (∀ a, a ∈ as ↔ a ∈ hs) ∧ SRel X.K { C with hid := hs ++ (D :: C.hid) } H' (wipe σ (own.map (·.2))) ρw ∧ RepTs X.K (vis { C with hid := hs ++ (D :: C.hid) } (ows ρw) H') H' acc (vs.take i) as ∧
    Same (vis C (ows ρ) H1) (vis { C with hid := hs ++ (D :: C.hid) } (ows ρw) H') ∧ Same H1 H' ∧ (DL.D.allFl (vs.take i) = true → as.Nodup) := ⟨_, rfl⟩
  have G0 : G 0 (upd H1 D (.lst [])) := by
    rw [hG]
    exact ⟨[], [], [], upd_same, (fun a z => absurd z List.not_mem_nil), (fun a => Iff.rfl), Sw, by rw [List.take_zero]; exact .nil, by rw [how]; exact vh, same_upd nD, fun _ => List.nodup_nil⟩
  refine ⟨fun i m H' => i + m = ds.length ∧ G i H', ⟨ds.length, by omega, G0⟩, ?_⟩
  rintro i m H2 ⟨em, hGi⟩
  rw [hG] at hGi
  obtain ⟨acc, as, hs, hD, fas, ash, S2, racc, v2, h12, fnd⟩ := hGi
  have L2 := S2.lat v2
  by_cases hlt : i < ds.length
  · have hx : ds[i]? = some ds[i] := List.getElem?_eq_getElem hlt
    obtain ⟨v', hv', e1⟩ := at_ i _ hx
    unfold xlc1 at e1
    split at e1
    · rename_i ss q1
      have blk0 : Blk X scope (X.blk X.s_0 (fun _ => none) scope (compEnvC scope [] X.env.locals X.env) []) := ⟨X.s_0, (fun _ => none), X.env.locals, [], [], rfl⟩
      have hq' := (hg _ blk0 C ρ ds[i] ss q1).2
      obtain ⟨ρg, hρg⟩ : ∃ ρg, ρg = setsR ρw ss := ⟨_, rfl⟩
      have eg : ows ρg = ows ρw := by rw [hρg]; exact ows_setsR (L := own.map (·.2)) (fun q hq2 => hL _ (hq' q hq2)) ofree
      have fg : frOf ρg = setsF (frOf ρw) ss := by rw [hρg, frOf_sets]
      have tk : vs.take (i + 1) = vs.take i ++ [v'] := by rw [List.take_add_one, hv']; rfl
      refine .inr ⟨y1.go _ _ _ i L2 hlt, fun H' => G (i + 1) H', fun H' w => ⟨m - 1, by omega, by omega, w⟩, fun x H3 y => ?_⟩
      obtain ⟨d, hd', s3, r3⟩ := y1.yl _ _ _ i x H3 L2 hlt y
      have ed : d = ds[i] := by rw [hx] at hd'; exact (Option.some.inj hd').symm
      subst ed
      refine ⟨_, ρw, ds[i], ρg, L, S2.same s3, r3, fun X' bk => by rw [hρg]; exact ((hg X' bk) _ ρw ds[i] ss q1).1, fun σ4 S4 s4 k4 => ⟨wipe_again k4.1 hL k4.2, ?_⟩⟩
      refine ⟨_, ρg, true, S4, fun X' bk => ets_nil, fun H5 s5 => ?_⟩
      refine iteT ⟨_, ρg, v', S4.same s5, fun X' bk => (hp.el X' bk).run _ ρg v' (by rw [fg]; exact e1), fun v bs H6 n6 s6 r6 => ?_⟩
      have s25 := s3.trans s5
      have s26 := s25.trans s6
      have n2 : ∀ a ∈ bs, H2 a = none := fun a ha => s25.free (n6 a ha)
      have hDb : D ∉ bs := fun z => by
        have := n2 D z
        rw [hD] at this
        cases this
      have hlen : acc.length ≤ i := by
        have h1 := RepTs.length racc
        rw [List.length_take] at h1
        omega
      have there : ∀ a ∈ bs, H6 a ≠ none := fun a ha z => by
        obtain ⟨xs, e⟩ := RepT.isl _ r6 a ha
        rw [e] at z
        cases z
      have S6 := S2.hides n2 s26 there
      have mD : D ∈ (bs ++ (hs ++ (D :: C.hid))) := List.mem_append_right _ (List.mem_append_right _ List.mem_cons_self)
      have b1 : atT (H6 D) = false := by rw [s26 _ _ hD]; rfl
      have S7 : SRel X.K { C with hid := bs ++ (hs ++ (D :: C.hid)) } (upd H6 D (.lst (acc ++ [v]))) (wipe σ (own.map (·.2))) ρw := SRel.updHid (C := { C with hid := bs ++ (hs ++ (D :: C.hid)) }) S6 mD b1 rfl
      have ev : vis { C with hid := bs ++ (hs ++ (D :: C.hid)) } (ows ρw) (upd H6 D (.lst (acc ++ [v]))) = vis { C with hid := bs ++ (hs ++ (D :: C.hid)) } (ows ρw) H6 := vis_hid (C := { C with hid := bs ++ (hs ++ (D :: C.hid)) }) mD b1 rfl
      have v26 : Same (vis { C with hid := hs ++ (D :: C.hid) } (ows ρw) H2) (vis { C with hid := bs ++ (hs ++ (D :: C.hid)) } (ows ρw) H6) := by
        refine (vis_news (as := bs) S2.visIn n2 s26).trans (vis_gen fun a ha => ?_)
        rcases ha with z | z
        · exact .inl (List.mem_append_right _ z)
        · rcases List.mem_append.mp z with z | z
          · exact .inl (List.mem_append_left _ z)
          · exact .inr z
      refine ⟨acc, s26 _ _ hD, by omega, ?_⟩
      rw [hG]
      refine ⟨acc ++ [v], as ++ bs, bs ++ hs, upd_same, fun a ha => ?_, fun a => ?_, by rw [List.append_assoc]; exact S7, ?_, ?_, ?_, ?_⟩
      · rcases List.mem_append.mp ha with z | z
        · exact fas a z
        · exact ⟨h12.free (n2 a z), fun w => hDb (w ▸ z)⟩
      · rw [List.mem_append, List.mem_append, ash a]
        exact Or.comm
      · rw [List.append_assoc, ev, tk]
        refine RepTs.snoc (RepT.mono ?_ _ (fun a ha => ?_) r6) (RepTs.mono v26 _ (fun a ha => ?_) racc)
        · refine vis_gen fun a ha => ?_
          rcases ha with z | z
          · exact .inl (List.mem_append_right _ (by rw [eg]; exact z))
          · rcases List.mem_append.mp z with z | z
            · exact .inl (List.mem_append_left _ z)
            · exact .inr z
        · rw [upd_ne (fun w => hDb (by rw [← w]; exact ha))]
        · obtain ⟨xs, e⟩ := RepTs.isl _ racc a ha
          rw [upd_ne (fas a ha).2, e]
          exact (s26 _ _ e).symm
      · rw [List.append_assoc, ev]
        exact v2.trans v26
      · intro b' u hb
        rw [upd_ne (ne_of_none hb nD)]
        exact s26 _ _ (h12 _ _ hb)
      · intro af
        rw [tk] at af
        obtain ⟨a1, a2⟩ := allFl_snoc af
        refine List.nodup_append.mpr ⟨fnd a1, RepT.fl a2 r6, fun a ha b hb z => ?_⟩
        subst z
        obtain ⟨xs, e⟩ := RepTs.isl _ racc a ha
        rw [n2 a hb] at e
        cases e
    · cases e1
  · have e : i = ds.length := by omega
    subst e
    have tk : vs.take ds.length = vs := by rw [← lv, List.take_length]
    rw [tk] at racc fnd
    refine .inl ⟨y1.stop _ _ _ L2, q (.ref D) (D :: as) H2 (fun a ha => ?_) (s1.trans h12) (.lst (na := fun z => (fas D z).2 rfl) (nd := fnd) hD (RepTs.mono ?_ _ (fun _ _ => rfl) racc))⟩
    · rcases List.mem_cons.mp ha with z | z
      · rw [z]; exact s1.free nD
      · exact s1.free (fas a z).1
    · refine vis_gen (h2 := C.hid) fun a ha => ?_
      rcases ha with z | z
      · rcases List.mem_append.mp z with z | z
        · rcases List.mem_cons.mp z with z | z
          · exact .inr (List.mem_append_right _ (by rw [z]; exact List.mem_cons_self))
          · exact .inr (List.mem_append_left _ ((ash a).mp z))
        · exact .inl (by rw [how]; exact z)
      · exact .inr (List.mem_append_right _ (List.mem_cons_of_mem _ z))
theorem xm_lc {g : D → R (List (Nat × D))} {mi : Fr → R (List D)} {xm : Fr → R D} (hi : IM X tg iter mi) (h : XcM X scope own tg elt g xm) (ok : BlkOk X.N X.env.scope scope own) (hN : X.N.Nodup) (hc : X.calm = true := by rfl) (hf : ∀ x, foldedSetIterable iter X.env x = pure x := by intro _; rfl) :
    XM X (.ListComp elt [⟨tg, iter, [], 0⟩] scope pos) (xLc (own.map (·.2)) g mi xm) := .mk fun C ρ d q => by
  unfold xLc at q
  split at q
  · rename_i ds q1
    split at q
    · rename_i hz
      split at q
      · rename_i vs q2
        cases q
        exact fun σ H S Q k => wpE_of (pe_lc hc hN pi_wp ok cG_ok cT_ok cX_ok hf) (xlc_reading S (hi C ρ ds q1) hz.1 hz.2 h q2 k)
      · cases q
    · cases q
  · cases q
/-! ### defs that hand back a new tree -/
def spT (K : PySem.W.Frag) (n : Nat) (f : List D → R D) : Sp := fun vs H Q _ => ∃ (G : Hp) (y : { l : List D // l.length = n }) (d : D), Same G H ∧ Reps K G vs y.1 ∧ f y.1 = .ok d ∧
  ∀ v as H', (∀ a ∈ as, H a = none) → Same H H' → RepT K (vis ⟨H, G, []⟩ as H') H' v d as → Q v H'
structure CalT (P : Program) (w : World) (K : PySem.W.Frag) (mg : Str → Option Value) (base : Heap) (k : Nat) (x : Str) (ps : List Str) (f : List D → R D) : Prop where
  ex : ∃ (g : Addr) (fd : FuncData), mg x = some (.ref g) ∧ PySem.W.keepIn K (.ref g) = true ∧ Binds K fd ps [] ∧ FnOk P w K mg base (L2.CX P w) k g fd ps (spT K ps.length f)
/-- .. whose body is return .. -/
theorem calT_body {P : Program} {w : World} {K : PySem.W.Frag} {mg : Str → Option Value} {base : Heap} {x qual : Str} {st : Stmt} {f : Addr} {fd : FuncData} {N ps : List Str} {k : Nat} {e : Expr} {pos : Pos} {xm : Fr → R D} (F : Fun K x qual st f fd) (hm : mg x = some (.ref f)) (hb : Binds K fd ps []) (S : FnScope N ps (defScope st)) (hbody : defBody st = [.Return (some e) pos])
    (body : ∀ (cdv : Value) (A : Around) (outer : List Env) (s : Shared) (H : Hp) (E : XK), Room k (A.deeper (envOfC qual (defScope st) s.heap.objs.size f cdv)) → XM (cxOf (L2.CX P w) P w K mg base N qual (defScope st) f cdv A outer s H E) e xm) :
    CalT P w K mg base (k + 1) x ps (fun ds => xm (startF N.length ds)) := by
  refine ⟨f, fd, hm, F.kp, hb, F.okX S (fun vs H Q E h => ?_) fun cdv A outer s H vs Q E hr h => ?_⟩
  · obtain ⟨G, y, d, _, r, _⟩ := h
    rw [r.length, y.2]
  · obtain ⟨G, y, d, g, r, hd, q⟩ := h
    refine ⟨wpSs _ (defBody st), pss_wp, ?_⟩
    rw [hbody]
    refine wpSs_of (pss_cons (ps_ret pe_wp) pss_nil) ?_
    have S0 := srel_start (N := N) (ps := ps) g r
    refine (body cdv A outer s H E hr).run ⟨H, G, []⟩ _ d (by rw [frOf_start]; exact hd) _ H S0 _ fun v as H' n1 s1 r1 => ?_
    refine q v as H' n1 s1 (RepT.mono ?_ _ (fun _ _ => rfl) r1)
    exact vis_sub fun b hb => List.mem_append_left _ hb
def xCallT (f : List D → R D) (ma : Fr → R (List D)) : Fr → R D := fun E => match ma E with
  | .ok ds => f ds
  | _ => .bad
theorem xm_callT {k : Nat} {x : Str} {ps : List Str} {f : List D → R D} {mr : Fr → R (List D)} (F : CalT X.prog X.w X.K X.mg X.base k x ps f) (hr : Room k X.A) (h : AM X (e :: es) mr) (hn : (e :: es).length = ps.length := by rfl) (hg : Gl X x := by rfl) (hdb : (x == ("__debug__" : Str)) = false := by decide)
    (he : starEach (e :: es) X.env = (false, eval e X.env) :: starEach es X.env := by exact se_of rfl) (hpl : (backTo pos (starEach es X.env)).any (·.1) = false := by rfl) : XM X (.Call (.Name x p) (e :: es) [] pos) (xCallT f mr) := .mk fun C ρ d q => by
  unfold xCallT at q
  split at q
  · rename_i ds q1
    obtain ⟨h1, h2⟩ := h.run C ρ ds q1
    obtain ⟨g, fd, hm, hk, hb, F⟩ := F.ex
    intro σ H S Q kk
    refine wpE_of (pe_call (dvs := []) F hr hg hm hk hb .nil passL pa_wp hdb he hpl) (h1 σ H S _ fun vs H1 s1 r1 => ?_)
    have S1 := S.same s1
    rw [List.append_nil]
    refine ⟨vis C (ows ρ) H1, ⟨ds, h2.trans hn⟩, d, S1.visIn, r1, q, fun v as H2 n2 s2 rr => ?_⟩
    refine kk v as H2 (fun a ha => s1.free (n2 a ha)) (s1.trans s2) (RepT.mono (vis_callee S1.hh (fun a h => (S1.fr a h).2) n2 s2) _ (fun _ _ => rfl) rr)
  · cases q
end
end DL

set_option maxHeartbeats 4000000
/-! ### sorted(a set of ints), of any number of them -/
namespace DL
open PySem PySem.Spec PyProof.Rows L2
section
variable {P : Program} {w : World} {A : Around} {E : Value → Shared → Prop} {s : Shared} {a : Addr}
theorem sorted_setN {S : Int → Bool} {n : Nat} {Q : Value → Shared → Prop} (R : SetR w s.heap a S n) (hh : A.handled = none) (hn : n ≤ 100000)
    (hQ : ∀ s' p (out : Array Value) (c : Nat) (ns : List Int), (∀ b o, s.heap.get? b = some o → s'.heap.get? b = some o) → s'.gens = s.gens → s'.os = s.os → s.heap.objs.size ≤ p →
      s'.heap.get? p = some (seqObj "list" out c) → IntsAre out.toList ns → ns.Pairwise (· < ·) → (∀ k, k ∈ ns ↔ S k = true) → ns.length = n → Q (.ref p) s') :
    wpAny (model P w) A (call (.builtin "sorted") [.ref a]) Q E s := by
  obtain ⟨o, es, ep, t, ho, hex, hd, g, nd, hm, hb, hf, hcount, hr, hl⟩ := R
  refine Calls.call_function_entry kind_sorted plain_sorted entry_sorted (args_sorted1 _) ?_
  unfold Builtin.«sorted»
  refine wpAny_bind (m := checkCount "sorted" 1 1 _) (wpAny_pure ?_)
  refine wpAny_bind (collect_set (A := A.in1) hh ⟨o, ho, hex.1, hd⟩ hf hb hr hl fun s1 vs k1 hz g1 o1 pm => ?_)
  have len : vs.length = n := by rw [pm.length_eq, List.length_map, Array.length_toList]; exact hcount
  have are : IntsAre vs (vs.map Builtin.Re.reRawOf) := ints_of vs fun v hv => by
    obtain ⟨e, he, q⟩ := List.mem_map.mp (pm.mem_iff.mp hv)
    obtain ⟨k, tk, h1, _⟩ := g e he
    exact ⟨k, tk, by rw [← q]; exact h1⟩
  have keys : (vs.map Builtin.Re.reRawOf).Perm (es.toList.map keyOf) := by
    have q := pm.map Builtin.Re.reRawOf
    rw [List.map_map] at q
    exact q
  have room : vs.length ≤ sizeLine := by rw [len, sizeLine_eq]; omega
  refine wpAny_bind (wpAny_newList ?_ room)
  have at_ : (s1.heap.push (seqObj "list" vs.toArray 0)).get? s1.heap.objs.size = some (seqObj "list" vs.toArray 0) := Heap.get?_push_size _ rfl
  refine wpAny_bind (wpAny_holding (wpAny_call_entry slot_list_sort ⟨_, at_, rfl⟩ entry_list_sort (SrtO.list_sort_ord SrtO.swo_int at_ room (fun h2 => SrtO.ints_sortable are h2) fun out a1 a2 => ⟨_, rfl, ?_⟩) (args_list_sort _)))
  obtain ⟨b1, b2, b3⟩ := SrtO.ints_out are a1 a2
  obtain ⟨c, hc⟩ := sortedHeap_at (vs := vs) (out := out.toArray) at_
  have pn : (out.map SrtO.iv).Perm (es.toList.map keyOf) := b2.trans keys
  refine wpAny_pure ⟨_, rfl, hQ _ s1.heap.objs.size out.toArray c (out.map SrtO.iv) (fun b u e => ?_) g1 o1 hz hc b1 (lt_of_le_nodup _ b3 (pn.nodup_iff.mpr nd)) (fun k => by rw [pn.mem_iff, ← hm k]) ?_⟩
  · have q := k1 b u e
    have below := Heap.lt_size q
    show (sortedHeap (s1.heap.push (seqObj "list" vs.toArray 0)) s1.heap.objs.size vs out.toArray).get? b = some u
    rw [sortedHeap_old (Nat.ne_of_lt below) (by rw [size_push']; exact Nat.lt_succ_of_lt below)]
    exact Heap.get?_push_of_some _ q
  · rw [pn.length_eq, List.length_map, Array.length_toList]; exact hcount
end
def rSortedSetN (w : World) : List V → Hp → VK → Prop := fun vs H Q => ∃ (a : Addr) (S : Int → Bool) (n : Nat), vs = [V.ref a] ∧ H a = some (SetO w a S n) ∧ n ≤ 100000 ∧
  ∀ (ns : List Int) (p : Addr), ns.Pairwise (· < ·) → (∀ k : Int, k ∈ ns ↔ S k = true) → ns.length = n → H p = none → Q (.ref p) (upd H p (.lst (ns.map V.int)))
section
variable {X : Cx}
theorem cr_sortedSetN (hc : X.calm = true) : CallR X (.builtin "sorted") (rSortedSetN X.w) := by
  intro pins s σ H vs us Q I r h
  obtain ⟨a, S, n, rfl, ha, h6, q⟩ := h
  have R := setO_get I ha
  rw [Vals.ref1 r]
  refine sorted_setN R (I.ok.hd hc) h6 fun s' p out c ns k g o hp hg hi hs hm hl => ?_
  have room : (ns.map V.int).length ≤ sizeLine := by rw [List.length_map, hl, sizeLine_eq]; omega
  have free : H p = none := I.hok.fresh hp
  have J : Inv X pins σ (upd H p (.lst (ns.map V.int))) { s with heap := s'.heap, gens := s'.gens, drawn := s'.drawn, toks := s'.toks } :=
    I.call (ch := []) (Un.laid k hp free) (I.hok.laid k hp ⟨room, out.toList, c, vals_of_ints hi, hg⟩) (by rw [g]; exact I.bare) (fun _ z => nomatch z)
  have e : s' = { s with heap := s'.heap, gens := s'.gens, drawn := s'.drawn, toks := s'.toks } := by
    cases s'
    cases s
    cases o
    rfl
  rw [e]
  exact ⟨.ref p, _, J, rfl, q ns p hs hm hl free⟩
end
end DL
namespace DL
open PySem PySem.Spec PyProof.Rows L2
section
variable {X : Cx} {C : Ctx} {ρ : Rho} {a b e : Expr} {m ma mb : MX} {pos p p2 pos2 : Pos} {ds : List D}
/-- xs * k -/
def rRepL (K : PySem.W.Frag) : R2 := fun x y H Q => ∃ l k xs, x = .ref l ∧ y = .int k ∧ SqL K H l xs ∧ 0 ≤ k ∧ k ≤ 1000 ∧ xs.length ≤ 1000 ∧ ∀ p, H p = none → Q (.ref p) (upd H p (.lst (List.replicate k.toNat xs).flatten))
theorem op_repL : OpR X (binaryOp .Mult) (rRepL X.K) := by
  intro pins s σ H x y v u Q J rx ry h
  obtain ⟨l, k, xs, rfl, rfl, hl, h1, h2, h3, q⟩ := h
  cases rx
  obtain ⟨t, rfl⟩ := ry
  obtain ⟨as, r, ⟨⟨_, d1, _, s1⟩, n, e, c1, c2, c3⟩, _⟩ := J.list hl
  simp only at c1 c3
  subst c1 c3
  have l1 := r.length
  have hz : as.toArray.size * k.toNat ≤ 1000000 := by
    rw [List.size_toArray, ← l1]
    have : xs.length * k.toNat ≤ 1000 * 1000 := Nat.mul_le_mul h3 (by omega)
    omega
  have hz2 : as.length * k.toNat ≤ 1000000 := by rw [List.size_toArray] at hz; exact hz
  have hnew : List.foldl (fun x1 x2 => x1 ++ x2) #[] (List.replicate (if as.toArray.isEmpty = true then 0 else k.toNat) as.toArray) = (List.replicate k.toNat as).flatten.toArray := by
    have f0 : ∀ m : Nat, List.foldl (fun x1 x2 => x1 ++ x2) #[] (List.replicate m as.toArray) = (List.replicate m as).flatten.toArray := fun m => by
      have := foldl_rep as m []
      rw [List.nil_append] at this
      exact this
    rw [f0]
    cases as with
    | nil => simp
    | cons a r' => rw [if_neg (by simp)]
  refine wpAny_binaryOp_repeat_ref (T := "list") (U := "int") (by decide) ⟨_, e, rfl⟩ (fun s' => typeIs_int s' k t) noFill_list_mul F.fills_int_mul F.slot_int_rmul repeat_list F.slot_int_index.lookup
    (call_meets F.slot_int_rmul (typeIs_int s k t) F.entry_int_rmul (F.args_int_rmul_2 _ _) (lm_int_rmul_list_any k t l as.toArray n d1 s1)
      ⟨e, rfl, ⟨_, e, rfl⟩, call_meets F.slot_list_mul ⟨_, e, rfl⟩ F.entry_list_mul (F.args_list_mul_2 _ _) (lm_list_mul_any l as.toArray n d1 s1 k t (by simp [Builtin.List.listFitsIndex]; omega) (by omega) (by simp [Builtin.List.listTooLong, sizeLine]; omega)) ⟨e, ?_⟩⟩)
  rw [hnew]
  refine ⟨.ref _, _, J.lnew (t' := s.toks) (r.rep k.toNat) ?_, rfl, q _ J.fresh⟩
  rw [PyProof.Rows.lm_len_rep_flat, Nat.mul_comm, sizeLine_eq]
  rw [List.size_toArray, ← l1] at hz
  omega
theorem reps_flat {K : PySem.W.Frag} {H : Hp} {vs : List V} (r : Reps K H vs ds) : ∀ n : Nat, Reps K H (List.replicate n vs).flatten (List.replicate n ds).flatten
  | 0 => .nil
  | n + 1 => by
    rw [List.replicate_succ, List.replicate_succ, List.flatten_cons, List.flatten_cons]
    exact r.append (reps_flat r n)
/-- sorted(set(xs)), up to a thousand of them -/
theorem ef_sortSetN {ns : List Int} (hm : X.mg "sorted" = none) (hm2 : X.mg "set" = none) (ha : EL X C ρ e (D.ints ns)) (hl : ns.length ≤ 999) (hc : X.calm = true := by rfl) (hg : Gl X "sorted" := by rfl) (hg2 : Gl X "set" := by rfl) (he : starEach [.Call (.Name "set" p2) [e] [] pos2] X.env = (false, eval (.Call (.Name "set" p2) [e] [] pos2) X.env) :: starEach [] X.env := by exact se_of rfl)
    (he2 : starEach [e] X.env = (false, eval e X.env) :: starEach [] X.env := by exact se_of rfl) : EF X C ρ (.Call (.Name "sorted" p) [.Call (.Name "set" p2) [e] [] pos2] [] pos) (D.ints (setI ns)) := fun σ H S Q q =>
  wpE_of (pe_callB (cr_sortedSetN hc) hg hm (by decide +kernel) (pa_cons (pe_callTy (cr_setL hc) hg2 hm2 PyProof.Rows.boot_set (pa_cons pe_wp pa_nil he2) (by decide) (by decide) he2 rfl) pa_nil he) (by decide) (by decide) he rfl) (ha σ H S _ fun a xs H1 s1 l r1 => by
    have e1 := Reps.ints r1
    subst e1
    refine ⟨a, ns, rfl, l, by omega, fun p0 c np hcn => ?_⟩
    refine ⟨p0, _, c, rfl, upd_same, by omega, fun ms p1 h1 h2 h3 n1 => ?_⟩
    have em : ms = setI ns := setI_uniq h1 fun j => by rw [h2 j, decide_eq_true_eq]
    subst em
    refine q p1 _ _ ?_ (s1.trans ((same_upd np).trans (same_upd n1))) upd_same (Reps.of_ints _)
    exact s1.free ((same_upd np).free n1))
def sortSetRN (ds : List D) : R RV := match intsL ds with
  | some ns => if ns.length ≤ 999 then .ok (.fr (D.ints (setI ns))) else .bad
  | none => .bad
def eSortSetN (m : MX) : MX := fun E => match m E with
  | .ok (.im (.lst ds)) => sortSetRN ds
  | .ok (.fr ds) => sortSetRN ds
  | .ok (.ro ds) => sortSetRN ds
  | _ => .bad
theorem em_sortSetN (hm : X.mg "sorted" = none) (hm2 : X.mg "set" = none) (ha : EM X e m) (hc : X.calm = true := by rfl) (hg : Gl X "sorted" := by rfl) (hg2 : Gl X "set" := by rfl) (he : starEach [.Call (.Name "set" p2) [e] [] pos2] X.env = (false, eval (.Call (.Name "set" p2) [e] [] pos2) X.env) :: starEach [] X.env := by exact se_of rfl)
    (he2 : starEach [e] X.env = (false, eval e X.env) :: starEach [] X.env := by exact se_of rfl) : EM X (.Call (.Name "sorted" p) [.Call (.Name "set" p2) [e] [] pos2] [] pos) (eSortSetN m) := .mk fun C ρ => by
  unfold eSortSetN
  have ha' := ha C ρ
  revert ha'
  generalize m (frOf ρ) = r
  intro ha'
  have go : ∀ ds, EL X C ρ e ds → OKV X C ρ (.Call (.Name "sorted" p) [.Call (.Name "set" p2) [e] [] pos2] [] pos) (sortSetRN ds) := fun ds h => by
    unfold sortSetRN
    split
    · rename_i ns q
      split
      · rename_i hl
        rw [intsL_eq q] at h
        exact ef_sortSetN hm hm2 h hl hc hg hg2 he he2
      · trivial
    · trivial
  split
  · exact go _ (EE.el ha')
  · exact go _ (EF.el ha')
  · exact go _ ha'
  · trivial
theorem ev_sortSetN {E : Fr} : eSortSetN m E = (match m E with
  | .ok (.im (.lst ds)) => sortSetRN ds
  | .ok (.fr ds) => sortSetRN ds
  | .ok (.ro ds) => sortSetRN ds
  | _ => .bad) := rfl
theorem sortSetRN_ints {ns : List Int} (h : ns.length ≤ 999) : sortSetRN (D.ints ns) = .ok (.fr (D.ints (setI ns))) := by
  unfold sortSetRN
  rw [intsL_ints]
  exact if_pos h
/-- xs * k, for a list xs -/
theorem ef_repL {k : Int} (ha : EL X C ρ a ds) (hb : EE X C ρ b (.int k)) (h0 : 0 ≤ k ∧ k ≤ 1000) (hl : ds.length ≤ 1000) : EF X C ρ (.BinOp a .Mult b pos) (List.replicate k.toNat ds).flatten := fun σ H S Q q =>
  wpE_of (pe_op op_repL pe_wp pe_wp) (ha σ H S _ fun l xs H1 s1 sq r1 => hb σ H1 (S.same s1) _ fun v H2 s2 r2 => by
    cases r2
    exact ⟨l, k, xs, rfl, rfl, s2.seq sq, h0.1, h0.2, by rw [r1.length]; exact hl, fun z nz =>
      q z _ _ ((s1.trans s2).free nz) ((s1.trans s2).trans (same_upd nz)) upd_same (reps_fresh ((S.same s1).same s2) nz (reps_flat (Reps.mono (vis_same s2) _ r1) _))⟩)
def eRepL (ma mb : MX) : MX := fun E => match toL (ma E) with
  | .ok ds => (match toD (mb E) with
    | .ok (.at (.int k)) => if (0 ≤ k ∧ k ≤ 1000) ∧ ds.length ≤ 1000 then .ok (.fr (List.replicate k.toNat ds).flatten) else .bad
    | _ => .bad)
  | _ => .bad
theorem em_repL (ha : EM X a ma) (hb : EM X b mb) : EM X (.BinOp a .Mult b pos) (eRepL ma mb) := .mk fun C ρ => by
  unfold eRepL
  split
  · rename_i xs q1
    split
    · rename_i k q2
      split
      · rename_i h
        exact ef_repL (ha.el q1) (hb.ee q2) h.1 h.2
      · trivial
    · trivial
  · trivial
end
end DL

namespace DL
open PySem PySem.Spec PyProof.Rows L2
/-! ### dicts of one's own with whole numbers as keys -/
def putJ (ks : List Int) (k : Int) : List Int := if k ∈ ks then ks else ks ++ [k]
def putX {α : Type} (ks : List Int) (xs : List α) (k : Int) (v : α) : List α := if k ∈ ks then List.zipWith (fun j x => if j = k then v else x) ks xs else xs ++ [v]
def getX {α : Type} : List Int → List α → Int → Option α
  | j :: ks, x :: xs, k => if j = k then some x else getX ks xs k
  | _, _, _ => none
theorem any_key (k : Int) : ∀ (ks : List Int) (xs : List V), ks.length = xs.length → (((ks.map (Sum.inl : Int → Key)).zip xs).any fun kv => decide (kv.1 = (Sum.inl k : Key))) = decide (k ∈ ks)
  | [], [], _ => by simp
  | j :: ks, x :: xs, h => by
    rw [List.map_cons, List.zip_cons_cons, List.any_cons, any_key k ks xs (by simpa using h)]
    by_cases e : j = k
    · subst e; simp
    · have n1 : ¬ (Sum.inl j : Key) = Sum.inl k := fun z => e (Sum.inl.inj z)
      have n2 : ¬ k = j := fun z => e z.symm
      simp [n1, n2]
  | [], _ :: _, h => by simp at h
  | _ :: _, [], h => by simp at h
theorem map_key (k : Int) (v : V) : ∀ (ks : List Int) (xs : List V), ks.length = xs.length → (((ks.map (Sum.inl : Int → Key)).zip xs).map fun kv => if kv.1 = (Sum.inl k : Key) then (kv.1, v) else kv) = (ks.map (Sum.inl : Int → Key)).zip (List.zipWith (fun j x => if j = k then v else x) ks xs)
  | [], [], _ => rfl
  | j :: ks, x :: xs, h => by
    rw [List.map_cons, List.zip_cons_cons, List.map_cons, map_key k v ks xs (by simpa using h), List.zipWith_cons_cons, List.zip_cons_cons]
    congr 1
    by_cases e : j = k
    · subst e; simp
    · have n1 : ¬ (Sum.inl j : Key) = Sum.inl k := fun z => e (Sum.inl.inj z)
      rw [if_neg n1, if_neg e]
  | [], _ :: _, h => by simp at h
  | _ :: _, [], h => by simp at h
theorem put_key {ks : List Int} {xs : List V} (k : Int) (v : V) (h : ks.length = xs.length) : putK ((ks.map (Sum.inl : Int → Key)).zip xs) (Sum.inl k) v = ((putJ ks k).map (Sum.inl : Int → Key)).zip (putX ks xs k v) := by
  unfold putK putJ putX
  rw [any_key k ks xs h]
  by_cases c : k ∈ ks
  · rw [if_pos (decide_eq_true c), if_pos c, if_pos c, map_key k v ks xs h]
  · rw [if_neg (by rw [decide_eq_true_iff]; exact c), if_neg c, if_neg c, List.map_append, List.zip_append (by rw [List.length_map]; exact h)]
    rfl
theorem get_key (k : Int) : ∀ (ks : List Int) (xs : List V), ks.length = xs.length → valV ((ks.map (Sum.inl : Int → Key)).zip xs) (Sum.inl k) = getX ks xs k
  | [], [], _ => rfl
  | j :: ks, x :: xs, h => by
    have ih := get_key k ks xs (by simpa using h)
    unfold valV at ih ⊢
    rw [List.map_cons, List.zip_cons_cons, List.find?_cons]
    unfold getX
    by_cases e : j = k
    · subst e; simp
    · have n1 : ¬ (Sum.inl j : Key) = Sum.inl k := fun z => e (Sum.inl.inj z)
      rw [if_neg e, ← ih]
      simp [n1]
  | [], _ :: _, h => by simp at h
  | _ :: _, [], h => by simp at h
theorem putX_len {α : Type} {ks : List Int} {xs : List α} (k : Int) (v : α) (h : ks.length = xs.length) : (putJ ks k).length = (putX ks xs k v).length := by
  unfold putJ putX
  split
  · rw [List.length_zipWith]; omega
  · rw [List.length_append, List.length_append, h]; rfl
theorem putX_reps {K : PySem.W.Frag} {H : Hp} {k : Int} {v : V} {d : D} (r : Rep K H v d) : ∀ {ks : List Int} {xs : List V} {ds : List D}, Reps K H xs ds → Reps K H (putX ks xs k v) (putX ks ds k d) := fun {ks xs ds} h => by
  have go : ∀ (ks : List Int) {xs : List V} {ds : List D}, Reps K H xs ds → Reps K H (List.zipWith (fun j x => if j = k then v else x) ks xs) (List.zipWith (fun j x => if j = k then d else x) ks ds) := fun ks => by
    induction ks with
    | nil => intro xs ds h; exact .nil
    | cons j ks ih =>
      intro xs ds h
      cases h with
      | nil => exact .nil
      | cons a b =>
        rw [List.zipWith_cons_cons, List.zipWith_cons_cons]
        refine .cons ?_ (ih b)
        split
        · exact r
        · exact a
  unfold putX
  split
  · exact go ks h
  · exact h.append (.cons r .nil)
theorem getX_reps {K : PySem.W.Frag} {H : Hp} {k : Int} : ∀ {ks : List Int} {xs : List V} {ds : List D}, Reps K H xs ds → (getX ks xs k = none ∧ getX ks ds k = none) ∨ ∃ v d, getX ks xs k = some v ∧ getX ks ds k = some d ∧ Rep K H v d
  | [], _, _, _ => by left; exact ⟨by unfold getX; rfl, by unfold getX; rfl⟩
  | j :: ks, _, _, .nil => by left; exact ⟨by unfold getX; rfl, by unfold getX; rfl⟩
  | j :: ks, _, _, .cons (v := v) (d := d) a b => by
    unfold getX
    by_cases e : j = k
    · right; exact ⟨v, d, if_pos e, if_pos e, a⟩
    · rw [if_neg e, if_neg e]; exact getX_reps b
theorem nth_og {ρ : Rho} {i : Nat} {k : GK} {ds : List D} (h : nthS (frOf ρ) i = .og k ds) : ∃ a, ρ[i]? = some (.og a k ds) := by
  rw [frOf_nth] at h
  cases e : ρ[i]? with
  | none => rw [e] at h; cases h
  | some x => rw [e] at h; cases x <;> first | (cases h; exact ⟨_, rfl⟩) | cases h
section
variable {X : Cx} {C : Ctx} {ρ : Rho} {P : Post} {e a b c : Expr} {pos p : Pos} {m ma mb mk : MX}
/-- x = {} -/
def sSetI (i : Nat) : Fr → O := fun E => .nx (setS E i (.og (.dct []) []))
theorem sm_setI (i : Nat) {x : Str} {p' : Pos} (hN : X.N.Nodup) (hi : X.N[i]? = some x := by rfl) (hx : Loc X.env.scope x := by first | exact Or.inl rfl | exact Or.inr rfl) (hs : swapsWith (.Dict [] [] p) (some (.Name x p')) pos.line X.env = pure false := by rfl)
    (hf : X.fn x = true ∨ X.env.scope.names.lookup x = some .local := by first | exact .inl rfl | exact .inr rfl) : SM X (.Assign [.Name x p'] (.Dict [] [] p) pos) (sSetI i) := .mk fun C ρ P ok => fun σ H D S L => by
  refine wpS_of (ps_set hN hi hx pe_dnewK hs hf) fun l hl => ?_
  by_cases hi : i < ρ.length
  · obtain ⟨S2, s2⟩ := S.setOwn i hi (x := .og l (.dct []) []) rfl hl (same_upd (o := .dK []) hl) (by rw [upd_same]; intro z; cases z) (fun _ e => by cases e) (fun _ e => by cases e) (fun _ e => by cases e) (fun _ _ e => by cases e) (fun k ds' e => by cases e; exact ⟨[], _, upd_same, ⟨rfl, rfl⟩, .nil⟩)
    exact L.nx _ _ _ (ok _ (frOf_set ..)) S2 s2
  · have h' := ok (ρ.set i (.og l (.dct []) [])) (frOf_set ..)
    rw [set_oob hi] at h'
    show D.nx (σ.set i (some (.ref l))) _
    rw [set_oobS (by rw [S.len]; exact hi)]
    exact L.nx _ _ _ h' (S.same (same_upd hl)) (vis_same (same_upd hl))
/-- x[k] = e -/
def sPutI (i : Nat) (mk m : MX) : Fr → O := fun E => match nthS E i with
  | .og (.dct ks) ds => (match toD (mk E) with
    | .ok (.at (.int k)) => (match toD (m E) with
      | .ok d => if ks.length < sizeLine then .nx (setS E i (.og (.dct (putJ ks k)) (putX ks ds k d))) else .bad
      | _ => .bad)
    | _ => .bad)
  | _ => .bad
theorem sm_putI (i : Nat) {x : Str} {p1 p2 : Pos} (hu : X.A.units + 65 < cLine) (h : EM X e m) (hk : EM X b mk) (hN : X.N[i]? = some x := by rfl) (hv : Vis X.env.scope x := by first | exact Or.inl rfl | exact Or.inr (Or.inl rfl) | exact Or.inr (Or.inr rfl)) (hs : swapsWith e (some (.Subscript (.Name x p1) b p2)) pos.line X.env = pure false := by rfl)
    (hd : (x == ("__debug__" : Str)) = false := by decide) (hcd : (x == ("__classdict__" : Str)) = false := by decide) : SM X (.Assign [.Subscript (.Name x p1) b p2] e pos) (sPutI i mk m) := .mk fun C ρ P ok => by
  unfold sPutI at ok
  split at ok
  · rename_i ks ds q
    split at ok
    · rename_i k q2
      split at ok
      · rename_i d q4
        split at ok
        · rename_i hl
          obtain ⟨l, hr⟩ := nth_og q
          intro σ H D S L
          obtain ⟨h1, xs, o, h2, ⟨f1, rfl⟩, h3⟩ := S.og i l _ ds hr
          refine wpS_of (ps_dput (by omega) (pe_var hN hv hd hcd) pe_wp pe_wp hs) (h.ee q4 σ H S _ fun v H1 s1 r1 => ⟨_, h1, hk.ee q2 σ H1 (S.same s1) _ fun y H2 s2 r2 => ?_⟩)
          cases r2
          have S2 := (S.same s1).same s2
          have rr : Reps X.K (vis C (ows ρ) H2) (putX ks xs k v) (putX ks ds k d) := putX_reps (Rep.mono (vis_same s2) _ r1) (Reps.mono (vis_same (s1.trans s2)) _ h3)
          obtain ⟨S3, s3⟩ := S2.updOwn i (x := .og l (.dct (putJ ks k)) (putX ks ds k d)) (o := .dK (putK ((ks.map (Sum.inl : Int → Key)).zip xs) (Sum.inl k) v)) hr rfl rfl (S2.og i l _ ds hr).1 (fun _ e => by cases e) (fun _ e => by cases e) (fun _ e => by cases e) (fun _ _ e => by cases e) (fun kk ds' e => by
            cases e
            exact ⟨putX ks xs k v, ⟨putX_len k v f1, by rw [put_key k v f1]⟩, rr⟩)
          exact ⟨l, _, rfl, .inl ⟨_, Sum.inl k, (s1.trans s2) _ _ h2, rfl, by rw [List.length_zip, List.length_map]; omega, rfl⟩, L.nx _ _ _ (ok _ (frOf_set ..)) S3 ((vis_same (s1.trans s2)).trans s3)⟩
        · exact ok.elim
      · exact ok.elim
    · exact ok.elim
  · exact ok.elim
/-- x.get(k, e) -/
def eGetI2 (i : Nat) (mk m : MX) : MX := fun E => match nthS E i with
  | .og (.dct ks) ds => (match toD (mk E) with
    | .ok (.at (.int k)) => (match toD (m E) with
      | .ok d => .ok (.im ((getX ks ds k).getD d))
      | _ => .bad)
    | _ => .bad)
  | _ => .bad
theorem em_getI2 (i : Nat) {x : Str} {apos : Pos} (hu : X.A.units + 65 < cLine) (hk : EM X b mk) (hm : EM X c m) (m2 : M2 X (.Name x p) "get" apos b c pos := by exact ⟨by rfl, by rfl, by rfl, by rfl⟩) (hN : X.N[i]? = some x := by rfl) (hv : Vis X.env.scope x := by first | exact Or.inl rfl | exact Or.inr (Or.inl rfl) | exact Or.inr (Or.inr rfl))
    (hd : (x == ("__debug__" : Str)) = false := by decide) (hcd : (x == ("__classdict__" : Str)) = false := by decide) : EM X (.Call (.Attribute (.Name x p) "get" apos) [b, c] [] pos) (eGetI2 i mk m) := .mk fun C ρ => by
  unfold eGetI2
  split
  · rename_i ks ds q
    split
    · rename_i k q2
      split
      · rename_i d q3
        obtain ⟨l, hr⟩ := nth_og q
        show EE X C ρ _ _
        intro σ H S Q qq
        obtain ⟨h1, xs, o, h2, ⟨f1, rfl⟩, h3⟩ := S.og i l _ ds hr
        refine wpE_of (pe_dget2 (by omega) (pe_var hN hv hd hcd) pe_wp pe_wp m2) ⟨_, h1, l, rfl, .inl ⟨_, .inl h2⟩, hk.ee q2 σ H S _ fun y H1 s1 r1 => hm.ee q3 σ H1 (S.same s1) _ fun z H2 s2 r2 => ?_⟩
        cases r1
        refine ⟨_, .inl ⟨_, Sum.inl k, .inl ((s1.trans s2) _ _ h2), rfl, rfl⟩, qq _ H2 (s1.trans s2) ?_⟩
        rw [get_key k ks xs f1]
        rcases getX_reps (ks := ks) (k := k) (Reps.mono (vis_same (s1.trans s2)) _ h3) with ⟨a1, a2⟩ | ⟨v, d', a1, a2, a3⟩
        · rw [a1, a2]; exact r2
        · rw [a1, a2]; exact a3
      · trivial
    · trivial
  · trivial
/-- x[k] -/
def eGetI (i : Nat) (mk : MX) : MX := fun E => match nthS E i with
  | .og (.dct ks) ds => (match toD (mk E) with
    | .ok (.at (.int k)) => (match getX ks ds k with
      | some d => .ok (.im d)
      | none => .bad)
    | _ => .bad)
  | _ => .bad
theorem em_getI (i : Nat) {x : Str} (hu : X.A.units + 65 < cLine) (hk : EM X b mk) (hN : X.N[i]? = some x := by rfl) (hv : Vis X.env.scope x := by first | exact Or.inl rfl | exact Or.inr (Or.inl rfl) | exact Or.inr (Or.inr rfl)) (hp : PlainIx b := by intro _ _; rfl)
    (hd : (x == ("__debug__" : Str)) = false := by decide) (hcd : (x == ("__classdict__" : Str)) = false := by decide) : EM X (.Subscript (.Name x p) b pos) (eGetI i mk) := .mk fun C ρ => by
  unfold eGetI
  split
  · rename_i ks ds q
    split
    · rename_i k q2
      split
      · rename_i d q4
        obtain ⟨l, hr⟩ := nth_og q
        show EE X C ρ _ d
        intro σ H S Q qq
        obtain ⟨h1, xs, o, h2, ⟨f1, rfl⟩, h3⟩ := S.og i l _ ds hr
        refine wpE_of (pe_dget (by omega) (pe_var hN hv hd hcd) pe_wp hp) ⟨_, h1, hk.ee q2 σ H S _ fun y H1 s1 r1 => ?_⟩
        cases r1
        rcases getX_reps (ks := ks) (k := k) (Reps.mono (vis_same s1) _ h3) with ⟨a1, a2⟩ | ⟨v, d', a1, a2, a3⟩
        · rw [q4] at a2; cases a2
        · rw [q4] at a2
          cases a2
          exact ⟨l, v, rfl, .inl ⟨_, Sum.inl k, .inl (s1 _ _ h2), rfl, by rw [get_key k ks xs f1, a1]⟩, qq v H1 s1 a3⟩
      · trivial
    · trivial
  · trivial
/-- k in x -/
def inIR (i : Nat) (mk : MX) : Fr → R Bool := fun E => match nthS E i with
  | .og (.dct ks) ds => (match toD (mk E) with
    | .ok (.at (.int k)) => .ok (getX ks ds k).isSome
    | _ => .bad)
  | _ => .bad
def cInI (i : Nat) (mk : MX) : Fr → R Bool := inIR i mk
def cNotInI (i : Nat) (mk : MX) : Fr → R Bool := fun E => notR (inIR i mk E)
theorem inIR_ok (i : Nat) {x : Str} (hu : X.A.units + 65 < cLine) (hk : EM X b mk) (hN : X.N[i]? = some x) (hv : Vis X.env.scope x) (hd : (x == ("__debug__" : Str)) = false) (hcd : (x == ("__classdict__" : Str)) = false) {C : Ctx} {ρ : Rho} {k : Bool} (h : inIR i mk (frOf ρ) = .ok k) :
    EC X C ρ .In b (.Name x p) (.bl k) ∧ EC X C ρ .NotIn b (.Name x p) (.bl (!k)) := by
  unfold inIR at h
  split at h
  · rename_i ks ds q
    split at h
    · rename_i kd q2
      cases h
      obtain ⟨l, hr⟩ := nth_og q
      have some_ : ∀ {H : Hp} {xs : List V}, Reps X.K (vis C (ows ρ) H) xs ds → (getX ks xs kd).isSome = (getX ks ds kd).isSome := fun h3 => by
        rcases getX_reps (ks := ks) (k := kd) h3 with ⟨a1, a2⟩ | ⟨v, d', a1, a2, a3⟩ <;> rw [a1, a2] <;> rfl
      constructor <;> intro σ H S Q qq pins s I
      · refine (pc_din (by omega) pe_wp (pe_var hN hv hd hcd)).run pins s σ H _ I (hk.ee q2 σ H S _ fun y H1 s1 r1 => ?_)
        obtain ⟨h1, xs, o, h2, ⟨f1, rfl⟩, h3⟩ := (S.same s1).og i l _ ds hr
        cases r1
        refine ⟨_, h1, l, _, rfl, .inl ⟨_, Sum.inl kd, .inl h2, rfl, rfl⟩, ?_⟩
        rw [get_key kd ks xs f1, some_ h3]
        exact qq H1 s1
      · refine (pc_dnotin (by omega) pe_wp (pe_var hN hv hd hcd)).run pins s σ H _ I (hk.ee q2 σ H S _ fun y H1 s1 r1 => ?_)
        obtain ⟨h1, xs, o, h2, ⟨f1, rfl⟩, h3⟩ := (S.same s1).og i l _ ds hr
        cases r1
        refine ⟨_, h1, l, _, rfl, .inl ⟨_, Sum.inl kd, .inl h2, rfl, rfl⟩, ?_⟩
        rw [get_key kd ks xs f1, some_ h3]
        exact qq H1 s1
    · cases h
  · cases h
theorem cm_inI (i : Nat) {x : Str} (hu : X.A.units + 65 < cLine) (hk : EM X b mk) (hN : X.N[i]? = some x := by rfl) (hv : Vis X.env.scope x := by first | exact Or.inl rfl | exact Or.inr (Or.inl rfl) | exact Or.inr (Or.inr rfl)) (hd : (x == ("__debug__" : Str)) = false := by decide) (hcd : (x == ("__classdict__" : Str)) = false := by decide) :
    CM X .In b (.Name x p) (cInI i mk) := .mk fun C ρ k q => (inIR_ok i hu hk hN hv hd hcd q).1
theorem cm_ninI (i : Nat) {x : Str} (hu : X.A.units + 65 < cLine) (hk : EM X b mk) (hN : X.N[i]? = some x := by rfl) (hv : Vis X.env.scope x := by first | exact Or.inl rfl | exact Or.inr (Or.inl rfl) | exact Or.inr (Or.inr rfl)) (hd : (x == ("__debug__" : Str)) = false := by decide) (hcd : (x == ("__classdict__" : Str)) = false := by decide) :
    CM X .NotIn b (.Name x p) (cNotInI i mk) := .mk fun C ρ k q => by
  obtain ⟨k', q', rfl⟩ := notR_ok q
  exact (inIR_ok i hu hk hN hv hd hcd q').2
/-- sorted(x) -/
def sortZ (ks : List Int) : List Int := ks.mergeSort fun i j => decide (i ≤ j)
theorem sortZ_of {ks ys : List Int} (h : ys.Perm ks) (s : ys.Pairwise (· ≤ ·)) : ys = sortZ ks := by
  have p : ys.Perm (sortZ ks) := h.trans (List.mergeSort_perm _ _).symm
  have s2 : (sortZ ks).Pairwise (· ≤ ·) := by
    have h := List.pairwise_mergeSort (le := fun p q : Int => decide (p ≤ q)) (fun a b c h1 h2 => by
      rw [decide_eq_true_eq] at *
      exact Int.le_trans h1 h2) (fun a b => by
      rw [Bool.or_eq_true, decide_eq_true_eq, decide_eq_true_eq]
      exact Int.le_total a b) ks
    exact h.imp fun h => of_decide_eq_true h
  exact p.eq_of_pairwise (fun a b _ _ h1 h2 => Int.le_antisymm h1 h2) s s2
def eSortDI (i : Nat) : MX := fun E => match nthS E i with
  | .og (.dct ks) ds => if ks.length < 64 then .ok (.fr (D.ints (sortZ ks))) else .bad
  | _ => .bad
theorem em_sortDI (i : Nat) {x : Str} {p2 : Pos} (hm : X.mg "sorted" = none) (hc : X.calm = true := by rfl) (hN : X.N[i]? = some x := by rfl) (hv : Vis X.env.scope x := by first | exact Or.inl rfl | exact Or.inr (Or.inl rfl) | exact Or.inr (Or.inr rfl)) (hg : Gl X "sorted" := by rfl) (hd : (x == ("__debug__" : Str)) = false := by decide) (hcd : (x == ("__classdict__" : Str)) = false := by decide)
    (he : starEach [.Name x p2] X.env = (false, eval (.Name x p2) X.env) :: starEach [] X.env := by exact se_of rfl) : EM X (.Call (.Name "sorted" p) [.Name x p2] [] pos) (eSortDI i) := .mk fun C ρ => by
  unfold eSortDI
  split
  · rename_i ks ds q
    split
    · rename_i hl
      obtain ⟨l, hr⟩ := nth_og q
      show EF X C ρ _ _
      intro σ H S Q qq
      obtain ⟨h1, xs, o, h2, ⟨f1, rfl⟩, h3⟩ := S.og i l _ ds hr
      refine wpE_of (pe_callB (call_sortedDI hc) hg hm (by decide +kernel) (pa_cons (pe_var hN hv hd hcd) pa_nil he) (by decide) (by decide) he rfl) ⟨_, h1, l, _, ks, rfl, .inl h2, by
        rw [← List.unzip_fst, List.unzip_zip (by rw [List.length_map]; exact f1)], hl, fun ys z pm sr nz => ?_⟩
      rw [sortZ_of pm sr]
      exact qq z _ _ nz (same_upd nz) upd_same (Reps.of_ints _)
    · trivial
  · trivial
/-! ### xs.index(d), list(range(n)) -/
def idxGo : List D → D → Option Nat
  | [], _ => none
  | x :: l, d => if D.eqb x d = true then some 0 else (idxGo l d).map (· + 1)
theorem idxGo_at : ∀ {l : List D} {d : D} {n : Nat}, idxGo l d = some n → ∃ z, l[n]? = some z ∧ D.eqb z d = true ∧ ∀ (m : Nat) z', m < n → l[m]? = some z' → D.eqb z' d = false
  | x :: l, d, n, h => by
    unfold idxGo at h
    split at h
    · rename_i c
      cases h
      exact ⟨x, rfl, c, fun m z' hm _ => absurd hm (Nat.not_lt_zero m)⟩
    · rename_i c
      cases e : idxGo l d with
      | none => rw [e] at h; cases h
      | some k =>
        rw [e] at h
        cases h
        obtain ⟨z, h1, h2, h3⟩ := idxGo_at e
        refine ⟨z, by simpa using h1, h2, fun m z' hm hz => ?_⟩
        cases m with
        | zero =>
          have e2 : x = z' := by simpa using hz
          subst e2
          exact Bool.eq_false_iff.2 c
        | succ m => exact h3 m z' (Nat.lt_of_succ_lt_succ hm) (by simpa using hz)
theorem pys_get : ∀ {l : List D} {n : Nat} {z : D}, l[n]? = some z → (D.pys l)[n]? = some z.py
  | _ :: _, 0, _, h => by simp at h; subst h; rfl
  | _ :: l, n + 1, z, h => by
    have := pys_get (l := l) (n := n) (z := z) (by simpa using h)
    rw [D.pys]
    simpa using this
theorem pys_get' : ∀ {l : List D} {n : Nat} {z : PyData}, (D.pys l)[n]? = some z → ∃ d, l[n]? = some d ∧ z = d.py
  | [], _, _, h => by simp [D.pys] at h
  | d :: _, 0, _, h => by rw [D.pys] at h; simp at h; exact ⟨d, rfl, h.symm⟩
  | d :: l, n + 1, z, h => by
    rw [D.pys] at h
    obtain ⟨d', h1, h2⟩ := pys_get' (l := l) (n := n) (z := z) (by simpa using h)
    exact ⟨d', by simpa using h1, h2⟩
def idxR : R (List D) → R D → R RV
  | .ok ds, .ok d => if goodB (.lst ds) = true ∧ goodB d = true then (match idxGo ds d with | some n => .ok (.im (.int (n : Nat))) | none => .bad) else .bad
  | _, _ => .bad
def eIdxL (ma mb : MX) : MX := fun E => idxR (match ma E with | .ok (.im (.lst ds)) => .ok ds | _ => .bad) (toD (mb E))
theorem em_idxL {apos : Pos} (hu : X.A.units + 65 < cLine) (ha : EM X a ma) (hb : EM X b mb) (hs : starEach [b] X.env = (false, eval b X.env) :: starEach [] X.env := by exact se_of rfl) (hbase : attributeBase a "index" X.env (eval a X.env) = eval a X.env := by rfl) (hline : (apos.endLine == pos.line) = true := by rfl)
    (hfew : ((backTo pos (starEach [b] X.env)).all (fun x => !x.1) && (backToKw pos (keywordEach [] X.env)).all (fun x => x.1.isSome) && decide (([b]).length + ([] : List Keyword).length + (if ([] : List Keyword).isEmpty then 0 else 1) < 30)) = true := by rfl) : EM X (.Call (.Attribute a "index" apos) [b] [] pos) (eIdxL ma mb) := .mk fun C ρ => by
  unfold eIdxL
  cases e1 : ma (frOf ρ) with
  | er n => trivial
  | bad => trivial
  | ok rv =>
    cases rv with
    | fr l => trivial
    | ro l => trivial
    | im dl =>
      cases dl with
      | lst ds =>
        dsimp only
        cases e2 : toD (mb (frOf ρ)) with
        | er n => trivial
        | bad => trivial
        | ok d =>
          unfold idxR
          dsimp only
          split
          · rename_i g
            split
            · rename_i n q
              obtain ⟨z, h1, h2, h3⟩ := idxGo_at q
              show EE X C ρ _ _
              intro σ H S Q qq
              have hl : EE X C ρ a (.lst ds) := by have := ha C ρ; rw [e1] at this; exact this
              refine wpE_of (pe_bm PySem.F.plainAttrs_list PySem.F.slot_list_index PySem.F.type_list_index (mt_indexD hu) pe_wp (pa_cons pe_wp pa_nil hs) hbase hfew hline hs rfl) (hl σ H S _ fun v H1 s1 r1 => ?_)
              have S1 := S.same s1
              have r1' := r1
              cases r1 with
              | @lst aa xs _ sq rs =>
                refine ⟨.inl ⟨rfl, xs, S1.visIn.seq sq⟩, hb.ee e2 σ H1 S1 _ fun y H2 s2 r2 => ?_⟩
                have S2 := S1.same s2
                have gl := goodB_iff.mp g.1
                have gd := goodB_iff.mp g.2
                refine ⟨aa, y, d.py, D.pys ds, n, z.py, rfl, rfl, D.dp (.lst ds) gl.1 (Rep.mono S2.visIn _ (Rep.mono (vis_same s2) _ r1')), D.dp _ gd.1 (Rep.mono S2.visIn _ r2), gl.shaped, gd.shaped, pys_get h1, h2, fun k z' hk hz => ?_, qq _ H2 (s1.trans s2) (.at _)⟩
                obtain ⟨d', q1, rfl⟩ := pys_get' hz
                exact h3 k d' hk q1
            · trivial
          · trivial
      | _ => trivial
def eLRng (m : MX) : MX := fun E => match toD (m E) with
  | .ok (.at (.int n)) => if 0 ≤ n ∧ n ≤ 1000 then .ok (.fr (rngD 0 n.toNat)) else .bad
  | _ => .bad
theorem em_lrng {p2 p3 : Pos} (hl : X.mg "list" = none) (hr : X.mg "range" = none) (h : EM X e m) (hc : X.calm = true := by rfl) (hgl : Gl X "list" := by rfl) (hgr : Gl X "range" := by rfl) (he : starEach [e] X.env = (false, eval e X.env) :: starEach [] X.env := by exact se_of rfl)
    (he2 : starEach [.Call (.Name "range" p2) [e] [] p3] X.env = (false, eval (.Call (.Name "range" p2) [e] [] p3) X.env) :: starEach [] X.env := by exact se_of rfl) : EM X (.Call (.Name "list" p) [.Call (.Name "range" p2) [e] [] p3] [] pos) (eLRng m) := .mk fun C ρ => by
  unfold eLRng
  split
  · rename_i n q
    split
    · rename_i hn
      show EF X C ρ _ _
      intro σ H S Q qq
      refine wpE_of (pe_listRg hc hgl hl (prg_1 hgr hr pe_wp he) he2) (h.ee q σ H S _ fun v H1 s1 r1 => ?_)
      cases r1
      refine ⟨n, rfl, ⟨by decide, by decide, by omega, by omega, by omega⟩, fun z nz => ?_⟩
      refine qq z _ _ (s1.free nz) (s1.trans (same_upd nz)) upd_same ?_
      have e1 : rgV 0 n = (List.range n.toNat).map fun (i : Nat) => V.int (0 + (i : Int)) := by unfold rgV; rw [Int.sub_zero]
      have e2 : rngD 0 n.toNat = ((List.range n.toNat).map fun (i : Nat) => V.int (0 + (i : Int))).map D.at := by unfold rngD; rw [List.map_map]; rfl
      rw [e1, e2]
      exact Reps.of_ats _
    · trivial
  · trivial
end
end DL

namespace DL
open PySem PySem.Spec PyProof.Rows L2
section
variable {X : Cx} {C : Ctx} {ρ : Rho} {P : Post} {e elt tg iter : Expr} {pos spos p py : Pos} {m : MX} {scope : Scope} {own : List (Str × Nat)} {xm : Fr → R D}
/-- xs.extend(a new list) -/
def sExt (i : Nat) (m : MX) : Fr → O := fun E => match nthS E i with
  | .ow ds => (match m E with
    | .ok (.fr es) => if ds.length + es.length ≤ sizeLine then .nx (setS E i (.ow (ds ++ es))) else .bad
    | _ => .bad)
  | _ => .bad
theorem sm_ext (i : Nat) {x : Str} {p1 p2 p3 : Pos} (h : EM X e m) (hN : X.N[i]? = some x := by rfl) (hv : Vis X.env.scope x := by first | exact Or.inl rfl | exact Or.inr (Or.inl rfl) | exact Or.inr (Or.inr rfl)) (hs : swapsWith (.Call (.Attribute (.Name x p1) "extend" p2) [e] [] p3) none pos.line X.env = pure false := by rfl)
    (hfew : ((backTo p3 (starEach [e] X.env)).all (fun x => !x.1) && (backToKw p3 (keywordEach [] X.env)).all (fun x => x.1.isSome) && decide (([e]).length + ([] : List Keyword).length + (if ([] : List Keyword).isEmpty then 0 else 1) < 30)) = true := by rfl)
    (hline : (p2.endLine == p3.line) = true := by rfl) (he1 : starEach [e] X.env = (false, eval e X.env) :: starEach [] X.env := by exact se_of rfl) (hd : (x == ("__debug__" : Str)) = false := by decide) (hcd : (x == ("__classdict__" : Str)) = false := by decide) : SM X (.Expr (.Call (.Attribute (.Name x p1) "extend" p2) [e] [] p3) pos) (sExt i m) := .mk fun C ρ P ok => by
  unfold sExt at ok
  split at ok
  · rename_i ds q
    split at ok
    · rename_i es q2
      split at ok
      · rename_i hl
        obtain ⟨l, hr⟩ := nth_ow q
        have he : EF X C ρ e es := by have := h C ρ; rw [q2] at this; exact this
        intro σ H D S L
        obtain ⟨h1, xs, h2, h3⟩ := S.ow i l ds hr
        refine wpS_of (ps_expr (pe_bm PySem.F.plainAttrs_list PySem.F.slot_list_extend PySem.F.type_list_extend mt_extend (pe_var hN hv hd hcd) (pa_cons pe_wp pa_nil he1) rfl hfew hline he1 rfl) hs) ⟨_, h1, .inl ⟨rfl, _, .inl (.inl h2)⟩, he σ H S _ fun b zs H1 nb s1 lb r1 => ?_⟩
        have S1 := S.same s1
        have rb : Reps X.K (vis C (ows ρ) H1) zs es := Reps.mono (vis_sub fun y hy => List.mem_cons_of_mem _ hy) _ r1
        obtain ⟨S2, s2⟩ := S1.updOw i hr (((Reps.mono (vis_same s1) _ h3)).append rb)
        exact ⟨l, b, xs, zs, rfl, rfl, s1 _ _ h2, lb, by rw [h3.length, r1.length]; exact hl, L.nx _ _ _ (ok _ (frOf_set ..)) S2 ((vis_same s1).trans s2)⟩
      · exact ok.elim
    · exact ok.elim
  · exact ok.elim
/-- y = [a new tree for ..] -/
theorem sm_setXLc (i : Nat) {y : Str} {g : D → R (List (Nat × D))} {mi : Fr → R (List D)} (hi : IM X tg iter mi) (h : XcM X scope own tg elt g xm) (ok : BlkOk X.N X.env.scope scope own) (hN : X.N.Nodup) (hy : X.N[i]? = some y := by rfl) (hyl : X.env.scope.names.lookup y = some .local := by rfl)
    (hsw : swapsWith (.ListComp elt [⟨tg, iter, [], 0⟩] scope pos) (some (.Name y py)) spos.line X.env = pure true := by exact sw_true rfl rfl rfl (by decide +kernel)) (hc : X.calm = true := by rfl) (hf : ∀ x, foldedSetIterable iter X.env x = pure x := by intro _; rfl) :
    SM X (.Assign [.Name y py] (.ListComp elt [⟨tg, iter, [], 0⟩] scope pos) spos) (sSetX i (xLc (own.map (·.2)) g mi xm)) := .mk fun C ρ P okk => by
  unfold sSetX xLc at okk
  split at okk
  · rename_i d q
    split at q
    · rename_i ds q1
      split at q
      · rename_i hz
        split at q
        · rename_i vs q2
          cases q
          intro σ H D S L
          refine wpS_of (ps_setLc hc hN hy hyl hsw pi_wp ok cG_ok cT_ok cX_ok hf) (xlc_reading S (hi C ρ ds q1) hz.1 hz.2 h q2 fun v as H1 n1 s1 r1 => ?_)
          have there : ∀ a ∈ as, H1 a ≠ none := fun a ha z => by
            obtain ⟨xs, e⟩ := RepT.isl _ r1 a ha
            rw [e] at z
            cases z
          by_cases hl : i < ρ.length
          · obtain ⟨S2, s2⟩ := S.setOwns i hl (v := v) (x := .ot as (.lst vs)) n1 s1 there (fun _ _ z => by cases z) (fun _ _ z => by cases z) (fun as' d' z => by cases z; exact r1) (fun _ z => by cases z)
            exact L.nx _ _ H1 (okk _ (frOf_set ..)) S2 s2
          · have h' := okk (ρ.set i (.ot as (.lst vs))) (frOf_set ..)
            rw [set_oob hl] at h'
            show D.nx (σ.set i (some v)) H1
            rw [set_oobS (by rw [S.len]; exact hl)]
            exact L.nx _ _ H1 h' (S.same s1) (vis_same s1)
        · cases q
      · cases q
    · cases q
  · exact okk.elim
end
end DL

/-! ### trees that are spoilt: what is left of them is looked at, or a copy of their last list -/
namespace DL
open PySem PySem.Spec PyProof.Rows L2
section
variable {K : PySem.W.Frag} {C : Ctx} {W H H' : Hp} {σ : L2.St} {ρ : Rho}
theorem SRel.hidSub {h2 : List Addr} (S : SRel K C H σ ρ) (sub : ∀ b ∈ h2, b ∈ C.hid) : SRel K { C with hid := h2 } H σ ρ ∧ Same (vis C (ows ρ) H) (vis { C with hid := h2 } (ows ρ) H) := by
  have sm : Same (vis C (ows ρ) H) (vis { C with hid := h2 } (ows ρ) H) := vis_gen (h1 := C.hid) fun b hb => hb.imp id (sub b)
  refine ⟨⟨S.len, S.gh, S.hh, S.nd, fun a h => S.fr a (h.imp id (sub a)), fun a h z => S.dj a h (sub a z), fun j d' h => ?_, fun j a ds h => ?_, fun j a ds h => ?_, fun j bs t h => ?_, fun j a k ds h => ?_⟩, sm⟩
  · obtain ⟨v, h1, h2⟩ := S.im j d' h
    exact ⟨v, h1, Rep.mono sm _ h2⟩
  · obtain ⟨h1, xs, h2, h3⟩ := S.ow j a ds h
    exact ⟨h1, xs, h2, Reps.mono sm _ h3⟩
  · obtain ⟨h1, xs, h2, h3⟩ := S.od j a ds h
    exact ⟨h1, xs, h2, h3.mono sm⟩
  · obtain ⟨v, h1, h2⟩ := S.ot j bs t h
    exact ⟨v, h1, RepT.mono sm _ (fun _ _ => rfl) h2⟩
  · obtain ⟨h1, xs, o, h2, h3, h4⟩ := S.og j a k ds h
    exact ⟨h1, xs, o, h2, h3, Reps.mono sm _ h4⟩
/-- a slot of nothing, told what its value is -/
theorem SRel.tell (S : SRel K C H σ ρ) (i : Nat) {v : V} {d : D} (hσ : σ[i]? = some (some v)) (r : Rep K (vis C (ows ρ) H) v d) : SRel K C H σ (ρ.set i (.im d)) ∧ Same (vis C (ows ρ) H) (vis C (ows (ρ.set i (.im d))) H) := by
  have eσ : σ.set i (some v) = σ := by
    apply List.ext_getElem?
    intro j
    by_cases hj : j = i
    · subst hj
      rw [List.getElem?_set_self (List.getElem?_eq_some_iff.mp hσ).1, hσ]
    · rw [List.getElem?_set_ne (Ne.symm hj)]
  obtain ⟨S2, s2⟩ := S.setIm i r
  rw [eσ] at S2
  exact ⟨S2, s2⟩
/-- a tuple's items but one: no lists in them -/
theorem RepTs.but {W' : Hp} (t : Same W W') : ∀ {ds : List D} {vs : List V} {as : List Addr} {n : Nat} {a : Addr} {y : D}, D.noLs (ds.set n (.int 0)) = true → RepTs K W H vs ds as → vs[n]? = some (.ref a) → Rep K W' (.ref a) y → Reps K W' vs (ds.set n y)
  | [], _, _, n, a, y, h, .nil, q, r => by simp at q
  | d :: ds, _, _, 0, a, y, h, .cons r0 t0, q, r => by
    have e := Option.some.inj ((List.getElem?_cons_zero (l := _)).symm.trans q)
    subst e
    exact .cons r (Reps.mono t ds (RepTs.flat ds ((Bool.and_eq_true _ _).mp h).2 t0).2)
  | d :: ds, _, _, n + 1, a, y, h, .cons r0 t0, q, r => by
    have g := (Bool.and_eq_true _ _).mp h
    exact .cons (Rep.mono t d (RepT.flat d g.1 r0).2) (RepTs.but t g.2 t0 (by simpa using q) r)
end
section
variable {X : Cx} {C : Ctx} {ρ ρ' : Rho} {e b b1 b2 b3 c tg iter elt : Expr} {ifs es : List Expr} {m mk m1 m2 mj : MX} {pos p spos py : Pos} {P : Post} {st1 st2 : Stmt} {rest : List Stmt} {scope : Scope} {own : List (Str × Nat)} {t : Fr → R Bool}
/-- st is x[k][l][n].append(e), x the slot i -/
structure Doom3 (X : Cx) (i : Nat) (k l n : Int) (st : Stmt) (m : MX) : Prop where
  run : ∀ (C : Ctx) (ρ : Rho) (σ : L2.St) (H : Hp) (Z : Ends) (p : Addr) (xs : List V) (c : Addr) (ys : List V) (tt : Addr) (zs : List V) (b : Addr) (ws : List V) (y : D), SRel X.K C H σ ρ → σ[i]? = some (some (.ref p)) → H p = some (.tup xs) → atI xs k = some (.ref c) → H c = some (.lst ys) → atI ys l = some (.ref tt) → H tt = some (.tup zs) → atI zs n = some (.ref b) → H b = some (.lst ws) → ws.length < sizeLine →
    toD (m (frOf ρ)) = .ok y → (∀ u H2, Same H H2 → Z.nx σ (upd H2 b (.lst (ws ++ [u])))) → wpS X st Z σ H
theorem doom_app3 (i : Nat) (k l n : Int) {x : Str} {p1 p2 p3 p4 p5 p6 : Pos} (hk : ∀ C ρ, EE X C ρ b1 (.int k)) (hl : ∀ C ρ, EE X C ρ b2 (.int l)) (hn : ∀ C ρ, EE X C ρ b3 (.int n)) (h : EM X e m) (hN : X.N[i]? = some x := by rfl) (hv : Vis X.env.scope x := by first | exact Or.inl rfl | exact Or.inr (Or.inl rfl) | exact Or.inr (Or.inr rfl)) (hp1 : PlainIx b1 := by intro _ _; rfl) (hp2 : PlainIx b2 := by intro _ _; rfl) (hp3 : PlainIx b3 := by intro _ _; rfl)
    (hs : swapsWith (.Call (.Attribute (.Subscript (.Subscript (.Subscript (.Name x p1) b1 p4) b2 p5) b3 p6) "append" p2) [e] [] p3) none pos.line X.env = pure false := by rfl)
    (hbase : attributeBase (.Subscript (.Subscript (.Subscript (.Name x p1) b1 p4) b2 p5) b3 p6) "append" X.env (eval (.Subscript (.Subscript (.Subscript (.Name x p1) b1 p4) b2 p5) b3 p6) X.env) = eval (.Subscript (.Subscript (.Subscript (.Name x p1) b1 p4) b2 p5) b3 p6) X.env := by rfl)
    (hfew : ((backTo p3 (starEach [e] X.env)).all (fun x => !x.1) && (backToKw p3 (keywordEach [] X.env)).all (fun x => x.1.isSome) && decide (([e]).length + ([] : List Keyword).length + (if ([] : List Keyword).isEmpty then 0 else 1) < 30)) = true := by rfl)
    (hline : (p2.endLine == p3.line) = true := by rfl) (he1 : starEach [e] X.env = (false, eval e X.env) :: starEach [] X.env := by exact se_of rfl) (hd : (x == ("__debug__" : Str)) = false := by decide) (hcd : (x == ("__classdict__" : Str)) = false := by decide) :
    Doom3 X i k l n (.Expr (.Call (.Attribute (.Subscript (.Subscript (.Subscript (.Name x p1) b1 p4) b2 p5) b3 p6) "append" p2) [e] [] p3) pos) m := .mk fun C ρ σ H Z p xs c ys tt zs b ws y S hσ hH hx hc hy' ht hz hb hw hy q => by
  refine wpS_of (ps_expr (pe_bm PySem.F.plainAttrs_list PySem.F.slot_list_append PySem.F.type_list_append mt_append pe_wp (pa_cons pe_wp pa_nil he1) hbase hfew hline he1 rfl) hs) ?_
  refine wpE_of (pe_ix ix_tup (pe_ix ix_list (pe_ix ix_tup (pe_var hN hv hd hcd) pe_wp hp1) pe_wp hp2) pe_wp hp3) ⟨_, hσ, hk C ρ σ H S _ fun w H1 s1 r1 => ?_⟩
  cases r1
  refine ⟨p, xs, k, .ref c, rfl, rfl, tq (s1 _ _ hH), hx, hl C ρ σ H1 (S.same s1) _ fun w H2 s2 r2 => ?_⟩
  cases r2
  have s12 := s1.trans s2
  refine ⟨c, ys, l, .ref tt, rfl, rfl, .inl (.inl (s12 _ _ hc)), hy', hn C ρ σ H2 (S.same s12) _ fun w H3 s3 r3 => ?_⟩
  cases r3
  have s13 := s12.trans s3
  refine ⟨tt, zs, n, .ref b, rfl, rfl, tq (s13 _ _ ht), hz, ?_⟩
  refine ⟨.inl ⟨rfl, _, .inl (.inl (s13 _ _ hb))⟩, h.ee hy σ H3 (S.same s13) _ fun u H4 s4 r4 => ?_⟩
  exact ⟨b, ws, u, rfl, rfl, s4 _ _ (s13 _ _ hb), hw, q u H4 (s13.trans s4)⟩
open Classical in
/-- x[k][l][n].append(..), x[k].append(..), x's other items looked at behind -/
noncomputable def sSpoil (i : Nat) (k l n : Int) (m1 m2 : MX) (f : Fr → O) : Fr → O := fun E => match nthS E i with
  | .ot (.tup ds) => if ∃ k' es ps qs, ixN ds.length k = some k' ∧ ds[k']? = some (.lst es) ∧ es.length ≤ 1000 ∧ atI es l = some (.tup ps) ∧ atI ps n = some (.lst qs) ∧ qs.length ≤ 1000 ∧ D.noLs (ds.set k' (.int 0)) = true ∧ isOk (toD (m1 (setS E i .no))) = true ∧ isOk (toD (m2 (setS E i .no))) = true then
      (match ixN ds.length k with
        | some k' => f (setS (setS E i .no) i (.im (.tup (ds.set k' .any))))
        | none => .bad) else .bad
  | _ => .bad
theorem RepTs.at_any {K : PySem.W.Frag} {W H : Hp} : ∀ {ds : List D} {n : Nat} {d : D} {xs : List V} {as : List Addr}, RepTs K W H xs ds as → ds[n]? = some d → ∃ v bs, xs[n]? = some v ∧ RepT K W H v d bs ∧ ∀ b ∈ bs, b ∈ as
  | [], n, _, _, _, _, h => by simp at h
  | d' :: ds, 0, d, _, _, .cons r t, h => by
    have e : d' = d := by simpa using h
    subst e
    exact ⟨_, _, rfl, r, fun b hb => List.mem_append_left _ hb⟩
  | d' :: ds, n + 1, d, _, _, .cons r t, h => by
    obtain ⟨v, bs, h1, h2, h3⟩ := RepTs.at_any (n := n) t (by simpa using h)
    exact ⟨v, bs, by simpa using h1, h2, fun b hb => List.mem_append_right _ (h3 b hb)⟩
theorem RepTs.atI_any {K : PySem.W.Frag} {W H : Hp} {ds : List D} {k : Int} {d : D} {xs : List V} {as : List Addr} (r : RepTs K W H xs ds as) (h : atI ds k = some d) : ∃ v bs, atI xs k = some v ∧ RepT K W H v d bs ∧ ∀ b ∈ bs, b ∈ as := by
  unfold atI at h ⊢
  rw [RepTs.length r]
  cases q : ixN ds.length k with
  | none => rw [q] at h; cases h
  | some n => rw [q] at h; exact RepTs.at_any r h
theorem RepT.lst_eq {K : PySem.W.Frag} {W H : Hp} {v : V} {es : List D} {as : List Addr} (r : RepT K W H v (.lst es) as) : ∃ c ys cs, v = .ref c ∧ as = c :: cs ∧ H c = some (.lst ys) ∧ RepTs K W H ys es cs := by
  cases r with
  | leaf _ z => cases z
  | lst s r => exact ⟨_, _, _, rfl, rfl, s, r⟩
theorem RepT.tup_eq {K : PySem.W.Frag} {W H : Hp} (vi : Same W H) {v : V} {es : List D} {as : List Addr} (r : RepT K W H v (.tup es) as) : ∃ c ys, v = .ref c ∧ H c = some (.tup ys) ∧ W c = some (.tup ys) ∧ RepTs K W H ys es as := by
  cases r with
  | leaf r n =>
    cases r with
    | tup sq rs => exact ⟨_, _, rfl, vi _ _ sq, sq, RepTs.leaves n rs⟩
  | tup sq rs => exact ⟨_, _, rfl, vi _ _ sq, sq, rs⟩
theorem bm_spoil (i : Nat) {k l n : Int} {f : Fr → O} (h1 : Doom3 X i k l n st1 m1) (h2 : DoomM X i k st2 m2) (h : BM X rest f) : BM X (st1 :: st2 :: rest) (sSpoil i k l n m1 m2 f) := .mk fun C ρ P ok => by
  unfold sSpoil at ok
  split at ok
  · rename_i ds q
    split at ok
    · rename_i z
      obtain ⟨k', es, ps, qs, i1, i2, i3, i4, i5, i6, i7, i8, i9⟩ := z
      rw [i1] at ok
      dsimp only at ok
      obtain ⟨y1, z3⟩ := isOk_eq i8
      obtain ⟨y2, z4⟩ := isOk_eq i9
      obtain ⟨as, hr⟩ := nth_ot q
      intro σ H D S L
      obtain ⟨v, hσ, r0⟩ := S.ot i as _ hr
      obtain ⟨p, xs, rfl, hp, hpW, rs⟩ := RepT.tup_eq S.visIn r0
      have a0 : atI ds k = some (.lst es) := by unfold atI; rw [i1]; exact i2
      obtain ⟨v1, b1, g1, g2, g3⟩ := rs.atI_any a0
      obtain ⟨c, ys, cs, rfl, rfl, hc, rc⟩ := RepT.lst_eq g2
      obtain ⟨v2, b2, k1, k2, k3⟩ := rc.atI_any i4
      obtain ⟨tt, zs, rfl, ht, _, rt⟩ := RepT.tup_eq S.visIn k2
      obtain ⟨v3, b3, j1, j2, j3⟩ := rt.atI_any i5
      obtain ⟨bb, ws, ds3, rfl, rfl, hb, rb⟩ := RepT.lst_eq j2
      have mc : c ∈ as := g3 c List.mem_cons_self
      have mb : bb ∈ as := g3 bb (List.mem_cons_of_mem _ (k3 bb (j3 bb List.mem_cons_self)))
      have lws := RepTs.length rb
      have lys := RepTs.length rc
      obtain ⟨S0, s0⟩ := S.hideOt hr
      have fE : frOf (ρ.set i .no) = setS (frOf ρ) i .no := frOf_set ..
      refine wpSs_of (pss_cons ps_wp pss_wp) (h1.run _ _ σ H _ p xs c ys tt zs bb ws y1 S0 hσ hp g1 hc k1 ht j1 hb (by rw [sizeLine_eq]; omega) (by rw [fE]; exact z3) fun u H2 s2 => ?_)
      have S2 := (S0.same s2).updHid (D := bb) (o := .lst (ws ++ [u])) (List.mem_append_left _ mb) (by rw [s2 _ _ hb]; rfl) rfl
      have v2 : vis { C with hid := as ++ C.hid } (ows (ρ.set i .no)) (upd H2 bb (.lst (ws ++ [u]))) = vis { C with hid := as ++ C.hid } (ows (ρ.set i .no)) H2 := vis_hid (List.mem_append_left _ mb) (by rw [s2 _ _ hb]; rfl) rfl
      have np : p ≠ bb := fun z => by rw [z, hb] at hp; cases hp
      have npc : p ≠ c := fun z => by rw [z, hc] at hp; cases hp
      have cont : ∃ ys', upd H2 bb (.lst (ws ++ [u])) c = some (.lst ys') ∧ ys'.length ≤ 2000 := by
        by_cases z : c = bb
        · exact ⟨_, by rw [z]; exact upd_same, by rw [List.length_append]; simp; omega⟩
        · exact ⟨ys, by rw [upd_ne z]; exact s2 _ _ hc, by omega⟩
      obtain ⟨ys', hc2, hl2⟩ := cont
      have hp2 : upd H2 bb (.lst (ws ++ [u])) p = some (.tup xs) := by rw [upd_ne np]; exact s2 _ _ hp
      refine wpSs_of (pss_cons ps_wp pss_wp) (h2.run _ _ σ _ _ p xs c ys' y2 S2 hσ hp2 g1 hc2 (by rw [sizeLine_eq]; omega) (by rw [fE]; exact z4) fun u2 H3 s3 => ?_)
      have S3 := (S2.same s3).updHid (D := c) (o := .lst (ys' ++ [u2])) (List.mem_append_left _ mc) (by rw [s3 _ _ hc2]; rfl) rfl
      have v3 : vis { C with hid := as ++ C.hid } (ows (ρ.set i .no)) (upd H3 c (.lst (ys' ++ [u2]))) = vis { C with hid := as ++ C.hid } (ows (ρ.set i .no)) H3 := vis_hid (List.mem_append_left _ mc) (by rw [s3 _ _ hc2]; rfl) rfl
      obtain ⟨S4, s4⟩ := S3.unhide
      have vv : Same (vis C (ows ρ) H) (vis C (ows (ρ.set i .no)) (upd H3 c (.lst (ys' ++ [u2])))) := by
        refine (s0.trans (vis_same s2)).trans (Same.trans ?_ s4)
        rw [v3, ← v2]
        exact vis_same s3
      have rr : Rep X.K (vis C (ows (ρ.set i .no)) (upd H3 c (.lst (ys' ++ [u2])))) (.ref p) (.tup (ds.set k' .any)) := by
        refine .tup (vv _ _ hpW) (RepTs.but (a := c) vv i7 rs ?_ .any)
        unfold atI at g1
        rw [RepTs.length rs, i1] at g1
        exact g1
      obtain ⟨S6, s6⟩ := S4.tell i hσ rr
      refine h.run C _ P (by rw [frOf_set, fE]; exact ok) σ _ D S6 (L.later (vv.trans s6))
    · exact ok.elim
  · exact ok.elim
/-- st is x[k].clear(), x the slot i -/
structure DoomC (X : Cx) (i : Nat) (k : Int) (st : Stmt) : Prop where
  run : ∀ (C : Ctx) (ρ : Rho) (σ : L2.St) (H : Hp) (Z : Ends) (p : Addr) (xs : List V) (c : Addr) (ys : List V), SRel X.K C H σ ρ → σ[i]? = some (some (.ref p)) → H p = some (.tup xs) → atI xs k = some (.ref c) → H c = some (.lst ys) →
    (∀ H2, Same H H2 → Z.nx σ (upd H2 c (.lst []))) → wpS X st Z σ H
theorem doom_clr (i : Nat) (k : Int) {x : Str} {p1 p2 p3 p4 : Pos} (hk : ∀ C ρ, EE X C ρ b (.int k)) (hN : X.N[i]? = some x := by rfl) (hv : Vis X.env.scope x := by first | exact Or.inl rfl | exact Or.inr (Or.inl rfl) | exact Or.inr (Or.inr rfl)) (hp : PlainIx b := by intro _ _; rfl) (hs : swapsWith (.Call (.Attribute (.Subscript (.Name x p1) b p4) "clear" p2) [] [] p3) none pos.line X.env = pure false := by rfl)
    (hbase : attributeBase (.Subscript (.Name x p1) b p4) "clear" X.env (eval (.Subscript (.Name x p1) b p4) X.env) = eval (.Subscript (.Name x p1) b p4) X.env := by rfl)
    (hline : (p2.endLine == p3.line) = true := by rfl) (hd : (x == ("__debug__" : Str)) = false := by decide) (hcd : (x == ("__classdict__" : Str)) = false := by decide) : DoomC X i k (.Expr (.Call (.Attribute (.Subscript (.Name x p1) b p4) "clear" p2) [] [] p3) pos) := .mk fun C ρ σ H Z p xs c ys S hσ hH hx hc q => by
  refine wpS_of (ps_expr (pe_bm0 PySem.F.plainAttrs_list PySem.F.slot_list_clear PySem.F.type_list_clear mt_clear pe_wp hbase hline) hs) ?_
  refine wpE_of (pe_ix ix_tup (pe_var hN hv hd hcd) pe_wp hp) ⟨_, hσ, hk C ρ σ H S _ fun w H1 s1 r1 => ?_⟩
  cases r1
  refine ⟨p, xs, k, .ref c, rfl, rfl, tq (s1 _ _ hH), hx, ?_⟩
  exact ⟨.inl ⟨rfl, _, .inl (.inl (s1 _ _ hc))⟩, c, ys, rfl, rfl, s1 _ _ hc, q H1 s1⟩
open Classical in
/-- y = [.. x[k] ..], the list x[k] copied; x[k].clear() -/
noncomputable def sHeld (i j : Nat) (k : Int) (me : MX) (f : Fr → O) : Fr → O := fun E => match nthS E i with
  | .ot (.tup ds) => if ∃ k' es, ixN ds.length k = some k' ∧ ds[k']? = some (.lst es) ∧ D.noLs (ds.set k' (.int 0)) = true ∧ D.nrs es = true ∧ i ≠ j ∧ me (setS E i (.im (.tup ds))) = .ok (.fr es) then
      (match ixN ds.length k with
        | some k' => (match ds[k']? with
          | some (.lst es) => f (setS (setS (setS E i .no) j (.im (.lst es))) i (.im (.tup (ds.set k' (.lst [])))))
          | _ => .bad)
        | none => .bad) else .bad
  | _ => .bad
theorem bm_held (nl : NoLists X.K) (i j : Nat) {k : Int} {y : Str} {f : Fr → O} {g : D → R (List (Nat × D))} {mi : Fr → R (List D)} (hi : IM X tg iter mi) (hlc : LcM X scope own tg ifs elt g t m) (bok : BlkOk X.N X.env.scope scope own) (hN : X.N.Nodup) (h2 : DoomC X i k st2) (h : BM X rest f) (hy : X.N[j]? = some y := by rfl) (hyl : X.env.scope.names.lookup y = some .local := by rfl)
    (hsw : swapsWith (.ListComp elt [⟨tg, iter, ifs, 0⟩] scope pos) (some (.Name y py)) spos.line X.env = pure true := by exact sw_true rfl rfl rfl (by decide +kernel)) (hc : X.calm = true := by rfl) (hf : ∀ x, foldedSetIterable iter X.env x = pure x := by intro _; rfl) :
    BM X (.Assign [.Name y py] (.ListComp elt [⟨tg, iter, ifs, 0⟩] scope pos) spos :: st2 :: rest) (sHeld i j k (eLc (own.map (·.2)) g mi t m) f) := .mk fun C ρ P ok => by
  unfold sHeld at ok
  split at ok
  · rename_i ds q
    split at ok
    · rename_i z
      obtain ⟨k', es, i1, i2, i3, i4, i5, i6⟩ := z
      rw [i1] at ok
      dsimp only at ok
      rw [i2] at ok
      dsimp only at ok
      obtain ⟨as, hr⟩ := nth_ot q
      have hil := (List.getElem?_eq_some_iff.mp hr).1
      intro σ H D S L
      obtain ⟨v, hσ, r0⟩ := S.ot i as _ hr
      obtain ⟨p, xs, rfl, hp, hpW, rs⟩ := RepT.tup_eq S.visIn r0
      have a0 : atI ds k = some (.lst es) := by unfold atI; rw [i1]; exact i2
      obtain ⟨v1, b1, g1, g2, g3⟩ := rs.atI_any a0
      obtain ⟨c, ys, cs, rfl, rfl, hcc, rc⟩ := RepT.lst_eq g2
      have mc : c ∈ as := g3 c List.mem_cons_self
      obtain ⟨ρ1, hρ1⟩ : ∃ ρ1, ρ1 = ρ.set i (.im (.tup ds)) := ⟨_, rfl⟩
      obtain ⟨S1, s1⟩ := S.thaw i hr
      rw [← hρ1] at S1 s1
      have f1 : frOf ρ1 = setS (frOf ρ) i (.im (.tup ds)) := by rw [hρ1]; exact frOf_set ..
      rw [← f1] at i6
      have o1 : ows ρ1 = ows (ρ.set i .no) := by
        rw [hρ1, ← List.set_set (a := En.no) (b := En.im (.tup ds)) (l := ρ) (i := i)]
        exact ows_set_same (fun e he => by
          rw [List.getElem?_set_self hil] at he
          cases he
          rfl) rfl
      unfold eLc lcGo at i6
      split at i6
      · rename_i es0 q0
        split at i6
        · rename_i hz
          cases q2 : lcN (lc1 g t m (wipeF (frOf ρ1) (own.map (·.2)))) es0 with
          | er n => rw [q2] at i6; cases i6
          | bad => rw [q2] at i6; cases i6
          | ok vs0 =>
            rw [q2] at i6
            have ev : vs0 = es := by cases i6; rfl
            subst ev
            have lo := lc_ok hlc ⟨X.s_0, (fun _ => none), X.env.locals, [], [], X.s_0, (fun _ => none), X.env.locals, [], [], rfl⟩ hz.1 q2
            refine wpSs_of (pss_cons ps_wp pss_wp) (wpS_of (ps_setLc hc hN hy hyl hsw pi_wp bok cG_ok cT_ok cE_ok hf) (lc_reading (enc := fun d : DL.D => d) (xs := es0) S1 (by rw [List.map_id']; exact hi C ρ1 es0 q0) rfl (ows_wipeR hz.1).1 hz.2 lo fun a vs H' n s l r => ?_))
            rw [← (lcN_ok q2).2] at r
            -- the heap with c hidden
            obtain ⟨S0, s0⟩ := S.hideOt hr
            have S0' := S0.same s
            obtain ⟨Sc, sc⟩ := S0'.hidSub (h2 := c :: C.hid) (fun b hb => (List.mem_cons.mp hb).elim (fun z => by rw [z]; exact List.mem_append_left _ mc) (List.mem_append_right _))
            have ca : H a = none := n
            have hc' : H' c = some (.lst ys) := s _ _ hcc
            have nac : a ≠ c := fun z => by rw [z, hcc] at n; cases n
            have cH0 : ∀ b ∈ as, C.H0 b = none := fun b hb => (S.fr b (.inl (mem_owsL hr hb))).1
            have cno : ∀ b ∈ as, b ∉ ows (ρ.set i .no) := fun b hb => own_out S.nd hr hb List.not_mem_nil
            have chd : ∀ b ∈ as, b ∉ C.hid := fun b hb => S.dj b (mem_owsL hr hb)
            have cna : ∀ b ∈ as, b ≠ a := fun b hb z => by
              obtain ⟨xs0, e0⟩ := RepTs.isl _ rs b hb
              rw [z, n] at e0
              cases e0
            have an := S.new n
            have anw : a ∉ ows (ρ.set i .no) := fun z => (ows_set_sub z).elim an.2.1 fun y => absurd y List.not_mem_nil
            have sW1 : Same (vis C (ows ρ) H) (vis C (a :: ows ρ1) H') := s1.trans (vis_new_same S1.visIn n s)
            have W1at : ∀ b ∈ as, vis C (a :: ows ρ1) H' b = H' b := fun b hb => vis_at (cH0 b hb) (fun z => (List.mem_cons.mp z).elim (cna b hb) fun y => cno b hb (o1 ▸ y)) (chd b hb)
            have W1c : Rep X.K (vis C (a :: ows ρ1) H') (.ref c) (.lst vs0) :=
              RepT.rep sW1 _ (fun b hb => W1at b (g3 b hb)) (RepT.mono (Same.refl _) _ (fun b hb => by
                obtain ⟨xs0, e0⟩ := RepT.isl _ g2 b hb
                rw [e0]
                exact (s _ _ e0).symm) g2)
            have kp := Reps.keep nl vs0 (S := DL.D.subss vs0) (fun x h => h) r
            have sk : Same (keepS X.K (DL.D.subss vs0) (vis C (a :: ows ρ1) H')) (vis { C with hid := c :: C.hid } (ows (ρ.set i .no)) H') := fun b x hb => by
              have hbW := keepS_in _ _ hb
              have nbc : b ≠ c := fun z => by
                subst z
                unfold keepS at hb
                rw [if_pos ⟨by rw [W1at b mc, hc']; rfl, fun ⟨x', hx', rx'⟩ => by
                  have e := Rep.det nl _ _ (nrs_subs vs0 i4 x' hx') (show (DL.D.lst vs0).nr = true from i4) rx' W1c
                  exact lst_not_sub vs0 (e ▸ hx')⟩] at hb
                cases hb
              unfold vis at hbW ⊢
              split at hbW
              · rename_i z; rw [if_pos z]; exact hbW
              · rename_i z
                rw [if_neg z]
                split at hbW
                · cases hbW
                · rename_i y
                  rw [if_neg fun w => y ⟨w.1.elim (fun k => .inl (List.mem_cons_of_mem _ (o1 ▸ k))) (fun k => (List.mem_cons.mp k).elim (fun k => absurd k nbc) .inr), w.2⟩]
                  exact hbW
            have ra : Rep X.K (vis { C with hid := c :: C.hid } (ows (ρ.set i .no)) H') (.ref a) (.lst vs0) := by
              refine .lst (.inl (.inl ?_)) (Reps.mono sk _ kp)
              rw [vis_at (C := { C with hid := c :: C.hid }) an.1 anw (fun z => (List.mem_cons.mp z).elim nac an.2.2)]
              exact l
            obtain ⟨Sj, sj⟩ := Sc.setIm j ra
            have hσ2 : (σ.set j (some (.ref a)))[i]? = some (some (.ref p)) := by rw [List.getElem?_set_ne (Ne.symm i5)]; exact hσ
            obtain ⟨ρ3, hρ3⟩ : ∃ ρ3, ρ3 = (ρ.set i .no).set j (.im (.lst vs0)) := ⟨_, rfl⟩
            rw [← hρ3] at Sj sj
            refine wpSs_of (pss_cons ps_wp pss_wp) (h2.run _ _ _ H' _ p xs c ys Sj hσ2 (s _ _ hp) g1 hc' fun H2 s2 => ?_)
            have S3 := (Sj.same s2).updHid (D := c) (o := .lst []) List.mem_cons_self (by rw [s2 _ _ hc']; rfl) rfl
            have v3 : vis { C with hid := c :: C.hid } (ows ρ3) (upd H2 c (.lst [])) = vis { C with hid := c :: C.hid } (ows ρ3) H2 := vis_hid (C := { C with hid := c :: C.hid }) List.mem_cons_self (by rw [s2 _ _ hc']; rfl) rfl
            obtain ⟨S4, s4⟩ := SRel.unhide (C := C) (as := [c]) S3
            have vv : Same (vis C (ows ρ) H) (vis C (ows ρ3) (upd H2 c (.lst []))) := by
              refine ((s0.trans (vis_same s)).trans sc).trans (sj.trans ((vis_same s2).trans ?_))
              rw [← v3]
              exact s4
            have c3 : c ∉ ows ρ3 := fun z => by
              rw [hρ3] at z
              exact (ows_set_sub z).elim (cno c mc) fun y => absurd y List.not_mem_nil
            have rr : Rep X.K (vis C (ows ρ3) (upd H2 c (.lst []))) (.ref p) (.tup (ds.set k' (.lst []))) := by
              refine .tup (vv _ _ hpW) (RepTs.but (a := c) vv i3 rs ?_ (.lst (.inl (.inl ?_)) .nil))
              · unfold atI at g1
                rw [RepTs.length rs, i1] at g1
                exact g1
              · rw [vis_at (cH0 c mc) c3 (chd c mc)]
                exact upd_same
            obtain ⟨S6, s6⟩ := S4.tell i hσ2 rr
            exact h.run C _ P (by rw [hρ3, frOf_set, frOf_set, frOf_set]; exact ok) _ _ D S6 (L.later (vv.trans s6))
        · cases i6
      · cases i6
    · exact ok.elim
  · exact ok.elim
/-- y = [a new tree for ..], while a tree is lent -/
theorem sm_setXLcB (i j : Nat) {y : Str} {xm : Fr → R DL.D} {g : DL.D → R (List (Nat × DL.D))} {mi : Fr → R (List DL.D)} (hi : IM X tg iter mi) (h : XcM X scope own tg elt g xm) (ok : BlkOk X.N X.env.scope scope own) (hN : X.N.Nodup) (hy : X.N[i]? = some y := by rfl) (hyl : X.env.scope.names.lookup y = some .local := by rfl)
    (hsw : swapsWith (.ListComp elt [⟨tg, iter, [], 0⟩] scope pos) (some (.Name y py)) spos.line X.env = pure true := by exact sw_true rfl rfl rfl (by decide +kernel)) (hc : X.calm = true := by rfl) (hf : ∀ x, foldedSetIterable iter X.env x = pure x := by intro _; rfl) :
    SM X (.Assign [.Name y py] (.ListComp elt [⟨tg, iter, [], 0⟩] scope pos) spos) (sSetX i (xBor j (xLc (own.map (·.2)) g mi xm))) := .mk fun C ρ P okk => by
  unfold sSetX xBor thaw at okk
  split at okk
  · rename_i d q
    split at q
    · rename_i dj qj
      obtain ⟨aj, hr⟩ := nth_ot qj
      unfold xLc at q
      rw [show setS (frOf ρ) j (.im dj) = frOf (ρ.set j (.im dj)) from by rw [frOf_set]; rfl] at q
      split at q
      · rename_i ds q1
        split at q
        · rename_i hz
          split at q
          · rename_i vs q2
            cases q
            intro σ H D S L
            refine wpS_of (ps_setLc hc hN hy hyl hsw pi_wp ok cG_ok cT_ok cX_ok hf) (xlc_reading (S.thaw j hr).1 (hi C _ ds q1) hz.1 hz.2 h q2 fun v as H1 n1 s1 r1' => ?_)
            have r1 := RepT.tupl (tupl_thaw S hr s1 as) _ r1'
            have there : ∀ a ∈ as, H1 a ≠ none := fun a ha z => by
              obtain ⟨xs, e⟩ := RepT.isl _ r1 a ha
              rw [e] at z
              cases z
            by_cases hl : i < ρ.length
            · obtain ⟨S2, s2⟩ := S.setOwns i hl (v := v) (x := .ot as (.lst vs)) n1 s1 there (fun _ _ z => by cases z) (fun _ _ z => by cases z) (fun as' d' z => by cases z; exact r1) (fun _ z => by cases z)
              exact L.nx _ _ H1 (okk _ (frOf_set ..)) S2 s2
            · have h' := okk (ρ.set i (.ot as (.lst vs))) (frOf_set ..)
              rw [set_oob hl] at h'
              show D.nx (σ.set i (some v)) H1
              rw [set_oobS (by rw [S.len]; exact hl)]
              exact L.nx _ _ H1 h' (S.same s1) (vis_same s1)
          · cases q
        · cases q
      · cases q
    · refine (sm_setXLc (py := py) (spos := spos) (pos := pos) i hi h ok hN hy hyl hsw hc hf).run C ρ P ?_
      unfold sSetX
      rw [q]
      exact okk
  · exact okk.elim
end
end DL

set_option maxHeartbeats 4000000
namespace DL
open PySem PySem.Spec PyProof.Rows L2
/-! ### a tree whose lists have changed -/
section
variable {K : PySem.W.Frag} {C : Ctx} {H H' : Hp} {σ : L2.St} {ρ : Rho}
theorem SRel.redo (S : SRel K C H σ ρ) (i : Nat) {as : List Addr} {d d' : D} (hr : ρ[i]? = some (.ot as d)) (but : ∀ b u, b ∉ as → H b = some u → H' b = some u) (hl : ∀ a ∈ as, ∃ xs, H' a = some (.lst xs))
    (r' : ∀ v, σ[i]? = some (some v) → RepT K (vis C (ows ρ) H) H' v d' as) : SRel K C H' σ (ρ.set i (.ot as d')) ∧ Same (vis C (ows ρ) H) (vis C (ows (ρ.set i (.ot as d'))) H') := by
  have hi : i < ρ.length := (List.getElem?_eq_some_iff.mp hr).1
  obtain ⟨v, hv, r⟩ := S.ot i as d hr
  have isl := RepT.isl _ r
  have eo : ows (ρ.set i (.ot as d')) = ows ρ := by
    obtain ⟨l, r2, h1, h2⟩ := ows_split ρ i (.ot as d') hi
    rw [h1, h2, ownAt_of hr]
    rfl
  have nas : ∀ {b u}, vis C (ows ρ) H b = some u → b ∉ as := fun {b u} hb m => by
    obtain ⟨xs, e⟩ := isl b m
    have o := mem_owsL hr m
    have n0 := (S.fr b (.inl o)).1
    unfold vis at hb
    rw [n0, if_neg (by simp), if_pos ⟨.inl o, by rw [e]; rfl⟩] at hb
    cases hb
  have sm : Same (vis C (ows ρ) H) (vis C (ows (ρ.set i (.ot as d'))) H') := fun b u hb => by
    have hH := S.visIn _ _ hb
    have h' := but b u (nas hb) hH
    rw [eo]
    unfold vis at hb ⊢
    split
    · rename_i z; rw [if_pos z] at hb; exact hb
    · rename_i z
      rw [if_neg z] at hb
      split at hb
      · cases hb
      · rename_i z2
        rw [if_neg]
        · exact h'
        · rintro ⟨y, ya⟩
          exact z2 ⟨y, by rw [hH]; rw [h'] at ya; exact ya⟩
  have hj : ∀ {j : Nat} {e : En}, (ρ.set i (.ot as d'))[j]? = some e → e ≠ .ot as d' → j ≠ i ∧ ρ[j]? = some e := fun {j e} h n => by
    by_cases z : j = i
    · subst z
      rw [List.getElem?_set_self hi] at h
      exact (n (Option.some.inj h).symm).elim
    · rw [List.getElem?_set_ne (Ne.symm z)] at h
      exact ⟨z, h⟩
  have out : ∀ {j : Nat} {e : En} {a : Addr}, j ≠ i → ρ[j]? = some e → a ∈ e.own → a ∉ as := fun {j e a} n h m z => n (own_inj S.nd h hr m z)
  have hidn : ∀ {a}, a ∈ C.hid → a ∉ as := fun {a} h z => S.dj a (mem_owsL hr z) h
  have keep : ∀ {a}, a ∉ as → H a ≠ none → H' a ≠ none := fun {a} n h z => by
    cases e : H a with
    | none => exact h e
    | some u => rw [but a u n e] at z; cases z
  refine ⟨⟨by simpa using S.len, S.gh, fun b u q => ?_, owns_nodup S.nd (fun b hb _ => by rw [ownAt_of hr]; exact hb), fun b h => ?_, by rw [eo]; exact S.dj, fun j d2 h => ?_, fun j b ds h => ?_, fun j b ds h => ?_, fun j bs t h => ?_, fun j b k ds h => ?_⟩, sm⟩
  · refine but b u (fun m => ?_) (S.hh _ _ q)
    rw [(S.fr b (.inl (mem_owsL hr m))).1] at q
    cases q
  · rcases h with h | h
    · rw [eo] at h
      refine ⟨(S.fr b (.inl h)).1, ?_⟩
      by_cases z : b ∈ as
      · obtain ⟨xs, e⟩ := hl b z
        rw [e]
        exact fun y => by cases y
      · exact keep z (S.fr b (.inl h)).2
    · exact ⟨(S.fr b (.inr h)).1, keep (hidn h) (S.fr b (.inr h)).2⟩
  · obtain ⟨_, h⟩ := hj h (by intro z; cases z)
    obtain ⟨v', h1, h2⟩ := S.im j d2 h
    exact ⟨v', h1, Rep.mono sm _ h2⟩
  · obtain ⟨n, h⟩ := hj h (by intro z; cases z)
    obtain ⟨h1, xs, h2, h3⟩ := S.ow j b ds h
    exact ⟨h1, xs, but _ _ (out n h (List.mem_singleton_self b)) h2, Reps.mono sm _ h3⟩
  · obtain ⟨n, h⟩ := hj h (by intro z; cases z)
    obtain ⟨h1, xs, h2, h3⟩ := S.od j b ds h
    exact ⟨h1, xs, but _ _ (out n h (List.mem_singleton_self b)) h2, h3.mono sm⟩
  · by_cases z : j = i
    · subst z
      rw [List.getElem?_set_self hi] at h
      cases h
      exact ⟨v, hv, RepT.mono sm _ (fun _ _ => rfl) (r' v hv)⟩
    · rw [List.getElem?_set_ne (Ne.symm z)] at h
      obtain ⟨v', h1, h2⟩ := S.ot j bs t h
      refine ⟨v', h1, RepT.mono sm _ (fun a ha => ?_) h2⟩
      obtain ⟨xs, e⟩ := RepT.isl _ h2 a ha
      rw [e]
      exact (but a _ (out z h ha) e).symm
  · obtain ⟨n, h⟩ := hj h (by intro z; cases z)
    obtain ⟨h1, xs, o, h2, h3, h4⟩ := S.og j b k ds h
    exact ⟨h1, xs, o, but _ _ (out n h (List.mem_singleton_self b)) h2, h3, Reps.mono sm _ h4⟩
end
/-! ### for y in x: if isinstance(y, list): y[k] = c -/
def markD (k : Nat) (c : Int) : D → D
  | .lst l => .lst (l.set k (.int c))
  | d => d
def mkOk (k : Nat) : D → Bool
  | .lst l => D.noLs l && decide (k < l.length)
  | .tup l => D.noLs l
  | _ => false
section
variable {K : PySem.W.Frag} {W H H' : Hp} {k : Nat} {c : Int}
/-- an entry, as it stands -/
theorem mk_entry {d : D} {v : V} {bs : List Addr} (h : mkOk k d = true) (r : RepT K W H v d bs) : (∃ l a ys, d = .lst l ∧ v = .ref a ∧ bs = [a] ∧ H a = some (.lst ys) ∧ ys.length = l.length ∧ k < l.length ∧ D.noLs l = true ∧ Reps K W ys l) ∨ (∃ l t zs, d = .tup l ∧ v = .ref t ∧ bs = [] ∧ W t = some (.tup zs)) := by
  unfold mkOk at h
  split at h
  · rename_i l
    rw [Bool.and_eq_true, decide_eq_true_eq] at h
    cases r with
    | leaf _ n => cases n
    | @lst a xs _ as na nd s r =>
      obtain ⟨rfl, q⟩ := RepTs.flat _ h.1 r
      exact .inl ⟨l, a, xs, rfl, rfl, rfl, s, q.length, h.2, h.1, q⟩
  · rename_i l
    cases r with
    | leaf r n =>
      cases r with
      | tup s r => exact .inr ⟨l, _, _, rfl, rfl, rfl, s⟩
    | tup s r =>
      obtain ⟨rfl, _⟩ := RepTs.flat _ h r
      exact .inr ⟨l, _, _, rfl, rfl, rfl, s⟩
  · cases h
theorem mark_reps : ∀ {ds : List D} {vs : List V} {as : List Addr}, (∀ d ∈ ds, mkOk k d = true) → RepTs K W H vs ds as → (∀ a l, (V.ref a, D.lst l) ∈ vs.zip ds → ∀ ys, H a = some (.lst ys) → H' a = some (.lst (ys.set k (.int c)))) →
    RepTs K W H' vs (ds.map (markD k c)) as := by
  intro ds
  induction ds with
  | nil => intro vs as _ r _; cases r; exact .nil
  | cons d ds ih =>
    intro vs as h r m
    cases r with
    | cons r t =>
      rw [List.map_cons]
      have t' := ih (fun x hx => h x (List.mem_cons_of_mem _ hx)) t (fun a l z => m a l (by rw [List.zip_cons_cons]; exact List.mem_cons_of_mem _ z))
      rcases mk_entry (h d List.mem_cons_self) r with ⟨l, a, ys, rfl, rfl, rfl, e1, e2, e3, e4, e5⟩ | ⟨l, t0, zs, rfl, rfl, rfl, e1⟩
      · refine .cons ?_ t'
        have e6 := m a l (by rw [List.zip_cons_cons]; exact List.mem_cons_self) ys e1
        show RepT K W H' (.ref a) (.lst (l.set k (.int c))) [a]
        exact .lst (na := List.not_mem_nil) (nd := fun _ => List.nodup_nil) e6 (RepTs.leaves (noLs_set rfl k e4) (Reps.set k (.at (.int c)) e5))
      · refine .cons ?_ t'
        show RepT K W H' (.ref t0) (.tup l) []
        exact RepT.mono (Same.refl W) _ (fun a z => by cases z) r
theorem mark_fl : ∀ {ds : List D}, (∀ d ∈ ds, mkOk k d = true) → D.allFl (ds.map (markD k c)) = true → D.allFl ds = true
  | [], _, _ => rfl
  | d :: ds, h, z => by
    rw [List.map_cons] at z
    have g := (Bool.and_eq_true _ _).mp z
    have t := mark_fl (fun x hx => h x (List.mem_cons_of_mem _ hx)) g.2
    have m := h d List.mem_cons_self
    show (D.isFl d && D.allFl ds) = true
    rw [t, Bool.and_true]
    unfold mkOk at m
    split at m
    · exact ((Bool.and_eq_true _ _).mp m).1
    · exact absurd g.1 (by intro y; cases y)
    · cases m
end
section
variable {X : Cx} {C : Ctx} {ρ : Rho} {pos p1 p2 p3 p4 p5 p6 p7 p8 p9 q1 q2 q3 : Pos} {k1 : Nat} {x y : Str} {b : Expr} {mk : MX}
def sMark (i j : Nat) (mk : MX) (c : Int) : Fr → O := fun E => match nthS E i with
  | .ot (.lst ds) => (match toD (mk (setS (setS E i .no) j .no)) with
    | .ok (.at (.int k)) => if 0 ≤ k ∧ ds.all (mkOk k.toNat) = true ∧ ds.length ≤ 1000 ∧ j < E.length then .nx (setS (setS E i (.ot (.lst (ds.map (markD k.toNat c))))) j .no) else .bad
    | _ => .bad)
  | _ => .bad
theorem sm_mark (i j : Nat) {c : Int} (hk : EM X b mk) (ti : X.mg "isinstance" = none) (tl : X.mg "list" = none) (hp : PassesOwn (model X.prog X.w) X.A X.env X.xe) (hN : X.N.Nodup) (hi : X.N[i]? = some x := by rfl) (hj : X.N[j]? = some y := by rfl) (nij : i ≠ j := by decide)
    (hv : Vis X.env.scope x := by first | exact Or.inl rfl | exact Or.inr (Or.inl rfl) | exact Or.inr (Or.inr rfl)) (hvy : Vis X.env.scope y := by first | exact Or.inl rfl | exact Or.inr (Or.inl rfl) | exact Or.inr (Or.inr rfl)) (ly : Loc X.env.scope y := by first | exact Or.inl rfl | exact Or.inr rfl)
    (fy : X.fn y = true ∨ X.env.scope.names.lookup y = some .local := by first | exact .inl rfl | exact .inr rfl)
    (hd : (x == ("__debug__" : Str)) = false := by decide) (hcd : (x == ("__classdict__" : Str)) = false := by decide) (dy : (y == ("__debug__" : Str)) = false := by decide) (cy : (y == ("__classdict__" : Str)) = false := by decide)
    (gi : Gl X "isinstance" := by rfl) (gl : Gl X "list" := by rfl) (hc : X.calm = true := by rfl)
    (e1 : starEach [.Name y p4, .Name "list" p5] X.env = (false, eval (.Name y p4) X.env) :: starEach [.Name "list" p5] X.env := by exact se_of rfl) (e2 : starEach [.Name "list" p5] X.env = (false, eval (.Name "list" p5) X.env) :: starEach [] X.env := by exact se_of rfl) (e3 : (backTo p6 (starEach [.Name "list" p5] X.env)).any (·.1) = false := by rfl)
    (i1 : ∀ whole, isTrue (.Call (.Name "isinstance" p3) [.Name y p4, .Name "list" p5] [] p6) X.env whole = (do let v ← whole; standAt (Expr.Call (.Name "isinstance" p3) [.Name y p4, .Name "list" p5] [] p6).pos; holding [v] (truthy v)) := by intro _; rfl)
    (hf : ∀ z, foldedSetIterable (.Name x p2) X.env z = pure z := by intro _; rfl)
    (ha : ∀ v, assign (.Subscript (.Name y p7) b p8) X.env v = (do
      let ov ← holding [v] (eval (.Name y p7) X.env)
      let iv ← holding [v, ov] (eval b X.env)
      standAt p8
      holding [v, ov, iv] (setItem ov iv v)
      release [v, ov, iv] []) := by intro _; rfl) (hs : swapsWithSole [.Subscript (.Name y p7) b p8] (.Constant (.int c) k1 p9) q1.line X.env = pure false := by rfl) (hw : swappedStores [.Subscript (.Name y p7) b p8] (.Constant (.int c) k1 p9) X.env = pure none := by rfl) (h1 : (assignEach [.Subscript (.Name y p7) b p8] X.env).map (·.2) = [assign (.Subscript (.Name y p7) b p8) X.env] := by rfl) :
    SM X (.For (.Name y p1) (.Name x p2) [.If (.Call (.Name "isinstance" p3) [.Name y p4, .Name "list" p5] [] p6) [.Assign [.Subscript (.Name y p7) b p8] (.Constant (.int c) k1 p9) q1] [] q2] [] pos) (sMark i j mk c) := .mk fun C ρ P ok => by
  unfold sMark at ok
  split at ok
  · rename_i ds q
    split at ok
    · rename_i k qk
      split at ok
      · rename_i cond
        obtain ⟨k0, mo, lds, jl⟩ := cond
        rw [List.all_eq_true] at mo
        obtain ⟨as, hr⟩ := nth_ot q
        intro σ H Dn S L
        obtain ⟨v, hσ, r0⟩ := S.ot i as _ hr
        obtain ⟨L0, vs, cs, rfl, rfl, hL0, rs⟩ := RepT.lst_eq r0
        have na0 : L0 ∉ cs := by
          cases r0 with
          | @lst a xs _ as na nd s r => exact na
        have lv : vs.length = ds.length := RepTs.length rs
        have isl : ∀ a ∈ L0 :: cs, ∃ zs, H a = some (.lst zs) := RepT.isl _ r0
        obtain ⟨kn, hkn⟩ : ∃ kn : Nat, kn = k.toNat := ⟨_, rfl⟩
        rw [← hkn] at mo ok
        have ek : k = (kn : Int) := by omega
        have ent : ∀ n (hn : n < ds.length), ∃ v bs, vs[n]? = some v ∧ ((∃ l a ys, ds[n]? = some (.lst l) ∧ v = .ref a ∧ a ∈ cs ∧ H a = some (.lst ys) ∧ kn < ys.length) ∨ (∃ l t zs, ds[n]? = some (.tup l) ∧ v = .ref t ∧ bs = ([] : List Addr) ∧ H t = some (.tup zs))) := fun n hn => by
          obtain ⟨v, bs, h1, h2, h3⟩ := rs.get (List.getElem?_eq_getElem hn)
          rcases mk_entry (mo _ (List.getElem_mem hn)) h2 with ⟨l, a, ys, e1, e2, e3, e4, e5, e6, _, _⟩ | ⟨l, t, zs, e1, e2, e3, e4⟩
          · exact ⟨v, bs, h1, .inl ⟨l, a, ys, by rw [List.getElem?_eq_getElem hn, e1], e2, h3 a (by rw [e3]; exact List.mem_singleton_self a), e4, by omega⟩⟩
          · exact ⟨v, bs, h1, .inr ⟨l, t, zs, by rw [List.getElem?_eq_getElem hn, e1], e2, e3, S.visIn _ _ e4⟩⟩
        obtain ⟨S0, s0⟩ := S.hideOt hr
        obtain ⟨S1, s1⟩ := S0.forget j
        obtain ⟨ρe, hρe⟩ : ∃ ρe, ρe = (ρ.set i .no).set j .no := ⟨_, rfl⟩
        obtain ⟨Ch, hCh⟩ : ∃ Ch : Ctx, Ch = { C with hid := (L0 :: cs) ++ C.hid } := ⟨_, rfl⟩
        rw [← hρe] at S1 s1
        rw [← hCh] at S0 s0 S1 s1
        have fE : frOf ρe = setS (setS (frOf ρ) i .no) j .no := by rw [hρe, frOf_set, frOf_set]; rfl
        have hkE : EE X Ch ρe b (.int k) := by
          have : toD (mk (frOf ρe)) = .ok (.at (.int k)) := by rw [fE]; exact qk
          exact hk.ee this
        have hidm : ∀ {a}, a ∈ L0 :: cs → a ∈ Ch.hid := fun ha => by rw [hCh]; exact List.mem_append_left _ ha
        have lj : j < σ.length := by
          have := S.len
          have l2 : (frOf ρ).length = ρ.length := List.length_map ..
          omega
        have npas : ∀ {q : Addr} {xs : List V}, H q = some (.tup xs) → q ∉ L0 :: cs := fun {q xs} hq m => by
          obtain ⟨ys, e⟩ := isl q m
          rw [e] at hq; cases hq
        have eno : ∀ {σ' : L2.St} {H' : Hp}, SRel X.K Ch H' σ' ρe → ∀ x : Option V, SRel X.K Ch H' (σ'.set j x) ρe := fun {σ' H'} S' x => by
          obtain ⟨A1, _⟩ := S'.setNo j x
          have e2 : ρe.set j .no = ρe := by rw [hρe, List.set_set]
          rw [e2] at A1
          exact A1
        refine wpS_of (ps_for hp hc (pi_list (pe_var hi hv hd hcd)) (pg_name hN hj ly fy)
          (pss_one (ps_if (pt_val (pe_callB call_isi gi ti (by decide +kernel) (pa_cons (pe_var hj hvy dy cy) (pa_cons (pe_bltn (v := .ty "list") gl tl (by decide +kernel) rfl) pa_nil e2) e1) (by decide) (by decide) e1 e3) i1)
            (pss_one (ps_asg pe_int (pg_sub (pe_var hj hvy dy cy) pe_wp set_list ha) hs hw h1)) pss_nil)) hf) ?_
        refine ⟨_, hσ, L0, rfl, ⟨vs, .inl (.inl hL0)⟩, for_list (K := X.K) (a := L0) (xs := vs) (fun n σ' H' => (SRel X.K Ch H' σ' ρe ∧ σ'.length = σ.length ∧ ∀ m, m ≠ j → σ'[m]? = σ[m]?) ∧ (∀ q o, q ∉ L0 :: cs → H q = some o → H' q = some o) ∧ H' L0 = some (.lst vs) ∧
            (∀ a ∈ cs, ∀ ys, H a = some (.lst ys) → H' a = some (.lst ys) ∨ H' a = some (.lst (ys.set kn (.int c)))) ∧ ∀ m a l ys, m < n → vs[m]? = some (.ref a) → ds[m]? = some (.lst l) → H a = some (.lst ys) → H' a = some (.lst (ys.set kn (.int c))))
          ⟨⟨S1, rfl, fun _ _ => rfl⟩, fun _ _ _ h => h, hL0, fun a _ ys h => .inl h, fun m a l ys h => absurd h (Nat.not_lt_zero m)⟩ (fun n σ' H' _ ⟨_, _, h, _⟩ => .inl (.inl h)) ?_ ?_⟩
        · rintro n z σ1 H1 hz ⟨⟨T1, T2, T3⟩, hb', hL, hA, hM⟩
          have hn : n < ds.length := by rw [← lv]; exact (List.getElem?_eq_some_iff.1 hz).1
          have sj : (σ1.set j (some z))[j]? = some (some z) := List.getElem?_set_self (by omega)
          have T4 := eno T1 (some z)
          have T5 : (σ1.set j (some z)).length = σ.length ∧ ∀ m, m ≠ j → (σ1.set j (some z))[m]? = σ[m]? := ⟨by rw [List.length_set]; exact T2, fun m hm => by rw [List.getElem?_set_ne (Ne.symm hm)]; exact T3 m hm⟩
          obtain ⟨v, bs, g1, g2⟩ := ent n hn
          rw [hz] at g1
          cases g1
          rcases g2 with ⟨l, a, ys, d1, rfl, ac, d2, d3⟩ | ⟨l, t, zs, d1, rfl, _, d2⟩
          · have cur : ∃ yc, H1 a = some (.lst yc) ∧ yc.set kn (.int c) = ys.set kn (.int c) ∧ yc.length = ys.length := by
              rcases hA a ac ys d2 with h | h
              · exact ⟨ys, h, rfl, rfl⟩
              · exact ⟨_, h, List.set_set .., List.length_set ..⟩
            obtain ⟨yc, c1, c2, c3⟩ := cur
            have aL : a ≠ L0 := fun z => na0 (z ▸ ac)
            refine ⟨_, sj, .ref a, .ty "list", .type "list", .type "list", true, rfl, .ty "list", (.base (.lst c1)), kit_ty (by rfl), true, rfl, iteT ?_⟩
            refine ⟨_, sj, hkE _ H1 T4 _ fun w H2 s2 rr => ?_⟩
            cases rr
            refine ⟨a, yc, k, kn, rfl, rfl, s2 _ _ c1, by unfold ixN; rw [if_pos k0, if_pos (by omega)]; rw [hkn], ?_⟩
            refine ⟨⟨(T4.same s2).updHid (hidm (List.mem_cons_of_mem _ ac)) (by rw [s2 _ _ c1]; rfl) rfl, T5⟩, fun q o hq h => ?_, ?_, fun a' ha' ys' h => ?_, fun m a' l' ys' hm e1 e2 e3 => ?_⟩
            · rw [upd_ne (fun z => hq (by rw [z]; exact List.mem_cons_of_mem _ ac))]
              exact s2 _ _ (hb' q o hq h)
            · rw [upd_ne aL.symm]
              exact s2 _ _ hL
            · by_cases e : a' = a
              · subst e
                rw [h] at d2
                cases d2
                rw [upd_same, c2]
                exact .inr rfl
              · rw [upd_ne e]
                rcases hA a' ha' ys' h with h | h
                · exact .inl (s2 _ _ h)
                · exact .inr (s2 _ _ h)
            · by_cases e : a' = a
              · subst e
                rw [e3] at d2
                cases d2
                rw [upd_same, c2]
              · have hm' : m < n := by
                  rcases Nat.lt_or_ge m n with h | h
                  · exact h
                  · have : m = n := by omega
                    subst this
                    rw [hz] at e1
                    cases e1
                    exact absurd rfl e
                rw [upd_ne e]
                exact s2 _ _ (hM m a' l' ys' hm' e1 e2 e3)
          · refine ⟨_, sj, .ref t, .ty "list", .type "tuple", .type "list", false, rfl, .ty "list", .base (.tup (hb' _ _ (npas d2) d2)), kit_ty (by rfl), false, rfl, iteF ?_⟩
            refine ⟨⟨T4, T5⟩, hb', hL, hA, fun m a' l' ys' hm e1 e2 e3 => ?_⟩
            have hm' : m < n := by
              rcases Nat.lt_or_ge m n with h | h
              · exact h
              · have : m = n := by omega
                subst this
                rw [d1] at e2
                cases e2
            exact hM m a' l' ys' hm' e1 e2 e3
        · rintro σ1 H1 ⟨⟨T1, T2, T3⟩, hb', hL, hA, hM⟩
          have hl : ∀ a ∈ L0 :: cs, ∃ xs, H1 a = some (.lst xs) := fun a ha => by
            rcases List.mem_cons.1 ha with z | z
            · rw [z]; exact ⟨_, hL⟩
            · obtain ⟨ys, e⟩ := isl a ha
              rcases hA a z ys e with h | h <;> exact ⟨_, h⟩
          have rr : RepTs X.K (vis C (ows ρ) H) H1 vs (ds.map (markD kn c)) cs := mark_reps (k := kn) (c := c) mo rs fun a l z ys e => by
            obtain ⟨m, hm⟩ := List.getElem?_of_mem z
            rw [List.getElem?_zip_eq_some] at hm
            exact hM m a l ys (by rw [lv]; exact (List.getElem?_eq_some_iff.1 hm.2).1) hm.1 hm.2 e
          have nd' : D.allFl (ds.map (markD kn c)) = true → cs.Nodup := fun z => by
            cases r0 with
            | @lst a xs _ as na nd s r => exact nd (mark_fl mo z)
          obtain ⟨S2, s2⟩ := S.redo i hr (d' := .lst (ds.map (markD kn c))) hb' hl fun v hv' => by
            rw [hσ] at hv'
            cases hv'
            exact .lst (na := na0) (nd := nd') hL rr
          obtain ⟨S3, s3⟩ := S2.setNo j (σ1[j]?.getD none)
          have eσ : σ.set j (σ1[j]?.getD none) = σ1 := by
            apply List.ext_getElem?
            intro m
            by_cases hmj : m = j
            · subst hmj
              rw [List.getElem?_set_self lj, List.getElem?_eq_getElem (by omega)]
              rfl
            · rw [List.getElem?_set_ne (Ne.symm hmj)]
              exact (T3 m hmj).symm
          rw [eσ] at S3
          exact L.nx _ _ _ (ok _ (by rw [frOf_set, frOf_set]; rfl)) S3 (s2.trans s3)
      · exact ok.elim
    · exact ok.elim
  · exact ok.elim
end
end DL

set_option maxHeartbeats 4000000
namespace DL
open PySem PySem.Spec PyProof.Rows L2
/-! ### {..}: a dict of which only its kind is told -/
section
variable {X : Cx} {C : Ctx} {ρ : Rho} {pos : Pos} {p1 p2 p3 p4 p5 p6 p7 p8 : Pos} {k1 k2 k3 k4 k5 k6 k7 k8 : Nat} {i1 i2 i3 i4 j1 j2 j3 j4 : Int}
theorem em_dct0 : EM X (.Dict [] [] pos) (eC .dct) := .mk fun C ρ => by
  show EE X C ρ _ .dct
  intro σ H S Q q
  refine wpE_of pe_dnewK fun p np => ?_
  obtain ⟨n0, no, nh⟩ := S.new np
  exact q _ _ (same_upd np) (.dct (by rw [vis_at n0 no nh]; exact upd_same))
theorem em_dct4 : EM X (.Dict [some (.Constant (.int i1) k1 p1), some (.Constant (.int i2) k2 p2), some (.Constant (.int i3) k3 p3), some (.Constant (.int i4) k4 p4)] [.Constant (.int j1) k5 p5, .Constant (.int j2) k6 p6, .Constant (.int j3) k7 p7, .Constant (.int j4) k8 p8] pos) (eC .dct) := .mk fun C ρ => by
  show EE X C ρ _ .dct
  intro σ H S Q q
  refine wpE_of (pe_disp (pps_cons pe_int pe_int (pps_cons pe_int pe_int (pps_cons pe_int pe_int (pps_cons pe_int pe_int pps_nil)))) (by rfl) (by rfl) (fun z => by cases z) (by show 4 ≤ 15; decide)) fun p np => ?_
  obtain ⟨n0, no, nh⟩ := S.new np
  refine ⟨upd_same, [(.inl i1, .int j1), (.inl i2, .int j2), (.inl i3, .int j3), (.inl i4, .int j4)], rfl, by show 4 ≤ 15; decide, q _ _ (fun b u hb => ?_) (.dct (by rw [vis_at n0 no nh]; exact upd_same))⟩
  have nb : b ≠ p := fun z => by rw [z, np] at hb; cases hb
  rw [upd_ne nb, upd_ne nb]
  exact hb
end
/-! ### x.append(e), x a list of one's own trees -/
section
variable {X : Cx} {C : Ctx} {ρ : Rho} {e : Expr} {m : MX} {pos : Pos}
def sAppR (i : Nat) (m : MX) : Fr → O := fun E => match nthS E i with
  | .ot (.lst ds) => (match toD (m E) with
    | .ok d => if d.noL = true ∧ ds.length ≤ 100000 then .nx (setS E i (.ot (.lst (ds ++ [d])))) else .bad
    | _ => .bad)
  | _ => .bad
theorem allFl_snocR {d : D} (n : d.noL = true) : ∀ ds : List D, D.allFl (ds ++ [d]) = true → False
  | [], h => by
    have g := ((Bool.and_eq_true _ _).mp h).1
    unfold D.isFl at g
    split at g
    · cases n
    · cases g
  | x :: ds, h => allFl_snocR n ds ((Bool.and_eq_true _ _).mp h).2
theorem sm_appR (i : Nat) {x : Str} {p1 p2 p3 : Pos} (h : EM X e m) (hN : X.N[i]? = some x := by rfl) (hv : Vis X.env.scope x := by first | exact Or.inl rfl | exact Or.inr (Or.inl rfl) | exact Or.inr (Or.inr rfl)) (hs : swapsWith (.Call (.Attribute (.Name x p1) "append" p2) [e] [] p3) none pos.line X.env = pure false := by rfl)
    (hfew : ((backTo p3 (starEach [e] X.env)).all (fun x => !x.1) && (backToKw p3 (keywordEach [] X.env)).all (fun x => x.1.isSome) && decide (([e]).length + ([] : List Keyword).length + (if ([] : List Keyword).isEmpty then 0 else 1) < 30)) = true := by rfl)
    (hline : (p2.endLine == p3.line) = true := by rfl) (he1 : starEach [e] X.env = (false, eval e X.env) :: starEach [] X.env := by exact se_of rfl) (hd : (x == ("__debug__" : Str)) = false := by decide) (hcd : (x == ("__classdict__" : Str)) = false := by decide) : SM X (.Expr (.Call (.Attribute (.Name x p1) "append" p2) [e] [] p3) pos) (sAppR i m) := .mk fun C ρ P ok => by
  unfold sAppR at ok
  split at ok
  · rename_i ds q
    split at ok
    · rename_i d q2
      split at ok
      · rename_i z
        obtain ⟨as, hr⟩ := nth_ot q
        intro σ H Dn S L
        obtain ⟨v, hσ, r0⟩ := S.ot i as _ hr
        obtain ⟨L0, vs, cs, rfl, rfl, hL0, rs⟩ := RepT.lst_eq r0
        have na0 : L0 ∉ cs := by
          cases r0 with
          | @lst a xs _ as na nd s r => exact na
        refine wpS_of (ps_expr (pe_bm PySem.F.plainAttrs_list PySem.F.slot_list_append PySem.F.type_list_append mt_append (pe_var hN hv hd hcd) (pa_cons pe_wp pa_nil he1) rfl hfew hline he1 rfl) hs) ⟨_, hσ, .inl ⟨rfl, _, .inl (.inl hL0)⟩, h.ee q2 σ H S _ fun u H1 s1 r1 => ?_⟩
        have S1 := S.same s1
        have hL1 := s1 _ _ hL0
        refine ⟨L0, vs, u, rfl, rfl, hL1, by rw [RepTs.length rs, sizeLine_eq]; omega, ?_⟩
        have isl := RepTs.isl _ rs
        obtain ⟨S2, s2⟩ := S1.updOwns (x := .ot (L0 :: cs) (.lst (ds ++ [d]))) (o := .lst (vs ++ [u])) i hr rfl List.mem_cons_self hσ (by rw [hL1]; rfl) rfl (fun _ _ z => by cases z) (fun _ _ z => by cases z) (fun as' d' z => by
          cases z
          have rs1 : RepTs X.K (vis C (ows ρ) H1) (upd H1 L0 (.lst (vs ++ [u]))) vs ds cs := RepTs.mono (vis_same s1) _ (fun a ha => by
            obtain ⟨zs, e⟩ := isl a ha
            rw [upd_ne (fun z => na0 (by rw [← z]; exact ha)), e]
            exact (s1 _ _ e).symm) rs
          have rs2 := RepTs.snoc (RepT.leaf (H := upd H1 L0 (.lst (vs ++ [u]))) r1 z.1) rs1
          rw [List.append_nil] at rs2
          exact .lst (na := na0) (nd := fun y => (allFl_snocR z.1 _ y).elim) upd_same rs2) (fun _ z => by cases z)
        exact L.nx _ _ _ (ok _ (frOf_set ..)) S2 ((vis_same s1).trans s2)
      · exact ok.elim
    · exact ok.elim
  · exact ok.elim
end
/-! ### defs that hand back a new tree: if .. return .. ; return .. -/
def xIf (t : Fr → R Bool) (a b : Fr → R D) : Fr → R D := fun E => match t E with
  | .ok true => a E
  | .ok false => b E
  | _ => .bad
theorem calT_if {P : Program} {w : World} {K : PySem.W.Frag} {mg : Str → Option Value} {base : Heap} {x qual : Str} {st : Stmt} {f : Addr} {fd : FuncData} {N ps : List Str} {k : Nat} {c e1 e2 : Expr} {p1 p2 p3 : Pos} {t : Fr → R Bool} {x1 x2 : Fr → R D} (F : Fun K x qual st f fd) (hm : mg x = some (.ref f)) (hb : Binds K fd ps []) (S : FnScope N ps (defScope st)) (hbody : defBody st = [.If c [.Return (some e1) p1] [] p2, .Return (some e2) p3])
    (bt : ∀ (cdv : Value) (A : Around) (outer : List Env) (s : Shared) (H : Hp) (E : XK), Room k (A.deeper (envOfC qual (defScope st) s.heap.objs.size f cdv)) → TM (cxOf (L2.CX P w) P w K mg base N qual (defScope st) f cdv A outer s H E) c t)
    (b1 : ∀ (cdv : Value) (A : Around) (outer : List Env) (s : Shared) (H : Hp) (E : XK), Room k (A.deeper (envOfC qual (defScope st) s.heap.objs.size f cdv)) → XM (cxOf (L2.CX P w) P w K mg base N qual (defScope st) f cdv A outer s H E) e1 x1)
    (b2 : ∀ (cdv : Value) (A : Around) (outer : List Env) (s : Shared) (H : Hp) (E : XK), Room k (A.deeper (envOfC qual (defScope st) s.heap.objs.size f cdv)) → XM (cxOf (L2.CX P w) P w K mg base N qual (defScope st) f cdv A outer s H E) e2 x2) :
    CalT P w K mg base (k + 1) x ps (fun ds => xIf t x1 x2 (startF N.length ds)) := by
  refine ⟨f, fd, hm, F.kp, hb, F.okX S (fun vs H Q E h => ?_) fun cdv A outer s H vs Q E hr h => ?_⟩
  · obtain ⟨G, y, d, _, r, _⟩ := h
    rw [r.length, y.2]
  · obtain ⟨G, y, d, g, r, hd, q⟩ := h
    refine ⟨wpSs _ (defBody st), pss_wp, ?_⟩
    rw [hbody]
    refine wpSs_of (pss_cons (ps_if pt_wp (pss_one (ps_ret pe_wp)) pss_nil) (pss_cons (ps_ret pe_wp) pss_nil)) ?_
    have S0 := srel_start (N := N) (ps := ps) g r
    unfold xIf at hd
    dsimp only at hd
    have fin : ∀ {H1 : Hp} {o : List Addr}, Same H H1 → ∀ v as H', (∀ a ∈ as, H1 a = none) → Same H1 H' → RepT K (vis ⟨H, G, []⟩ (as ++ o) H') H' v d as → Q v H' := fun {H1 o} s0 v as H' n1 s1 r1 => by
      refine q v as H' (fun a ha => s0.free (n1 a ha)) (s0.trans s1) (RepT.mono ?_ _ (fun _ _ => rfl) r1)
      exact vis_sub fun b hb => List.mem_append_left _ hb
    split at hd
    · rename_i _ q1
      refine (bt cdv A outer s H E hr).run ⟨H, G, []⟩ _ true (by rw [frOf_start]; exact q1) _ H S0 _ fun H1 s1 => ?_
      exact iteT ((b1 cdv A outer s H E hr).run ⟨H, G, []⟩ _ d (by rw [frOf_start]; exact hd) _ H1 (S0.same s1) _ fun v as H' n1 s2 r1 => fin s1 v as H' n1 s2 r1)
    · rename_i _ q1
      refine (bt cdv A outer s H E hr).run ⟨H, G, []⟩ _ false (by rw [frOf_start]; exact q1) _ H S0 _ fun H1 s1 => ?_
      exact iteF ((b2 cdv A outer s H E hr).run ⟨H, G, []⟩ _ d (by rw [frOf_start]; exact hd) _ H1 (S0.same s1) _ fun v as H' n1 s2 r1 => fin s1 v as H' n1 s2 r1)
    · cases hd
end DL

set_option maxHeartbeats 1000000
namespace DL
open PySem PySem.Spec PyProof.Rows L2
local macro_rules | `(tactic| walk_at "sz") => `(tactic| first
  | with_reducible assumption
  | with_reducible exact Sz.ofNat _
  | ((with_reducible refine' Sz.add ?a ?b); (case a => walk_at "sz"); (case b => walk_at "sz"))
  | ((with_reducible refine' Sz.sub ?a ?b); (case a => walk_at "sz"); (case b => walk_at "sz"))
  | ((with_reducible refine' Sz.mul ?a ?b); (case a => walk_at "sz"); (case b => walk_at "sz"))
  | ((with_reducible refine' Sz.neg ?a); (case a => walk_at "sz"))
  | ((with_reducible refine' Sz.emod ?a ?b); (case a => walk_at "sz"); (case b => first | decide | omega | decide +kernel))
  | ((with_reducible refine' Sz.ediv ?a ?b); (case a => walk_at "sz"); (case b => first | decide | omega | decide +kernel))
  | ((with_reducible refine' Sz.nabs ?a); (case a => walk_at "sz"))
  | ((with_reducible refine' Sz.gcd ?a ?b); (case a => walk_at "sz"); (case b => walk_at "sz"))
  | ((with_reducible refine' Sz.ite ?a ?b); (case a => walk_at "sz"); (case b => walk_at "sz"))
  | exact Sz.self _)
local macro_rules | `(tactic| walk_at "szl") => `(tactic| first | with_reducible assumption | exact Sz.mono (by walk_at "sz") (by decide +kernel))
local macro_rules | `(tactic| walk_at "dis") => `(tactic| first
  | with_reducible assumption
  | ((with_reducible show IntMulOk _ _); exact Sz.ok (by walk_at "sz") (by walk_at "sz") (by decide +kernel))
  | ((with_reducible show Sz _ _); walk_at "szl")
  | ((with_reducible show CPow _ _); exact cpow_mk (by decide) (by decide) (by decide +kernel))
  | ((with_reducible show @LE.le Nat _ _ _); ((try simp only [List.length_cons, List.length_nil, List.length_map, List.length_append, List.length_range, Nat.reduceAdd, Nat.reduceLeDiff]) <;> omega))
  | omega
  | assumption)
local macro_rules | `(tactic| walk_at "ev") => `(tactic| try simp -implicitDefEqProofs (disch := walk_at "dis") only [ev_addl_ff, ev_addl_ii, ev_addl_if, ev_addl_fi, ev_addl_oi, ev_addl_of, ev_addt, not_true_eq_false, not_false_eq_true, fnR, startF, cut_map, inR_ints, retN_at, eqD_quads, eqD_t3s, eqD_ints, eqD_t3, eqD_q4, List.length_map, Int.reduceToNat, Int.reducePow, Int.reduceMul, Int.reduceSub, Int.reduceAdd, Int.reduceNeg, Int.reduceEq, Int.reduceNe, Int.reduceLT, Int.reduceLE, lcT_b, decide_true, decide_false, List.map_cons, List.map_nil, List.length_cons, List.length_nil, List.cons_append, List.nil_append, Nat.reduceAdd, Nat.reduceSub, List.replicate_succ, List.replicate_zero, List.append_nil, List.append_assoc, mulZ_ok, fdivZ_pos, modZ_pos, powZ_ok, ifF_dec, ifF_bool, andF_bool, orF_bool, Bool.not_true, Bool.not_false, Bool.and_true, Bool.true_and, Bool.false_and, Bool.and_false, Bool.true_or, Bool.or_true, Bool.false_or, Bool.or_false, List.any_cons, List.any_nil, Bool.true_eq_false, decide_eq_true_eq, reduceIte, Bool.false_eq_true, Bool.not_eq_true', decide_eq_false_iff_not, rng1_ok, rng2_ok, lcGo_le, appV_le, intsOf_ints, Option.map_some, then_ite, retO_ite, ev_sq, ev_if, ev_then_nx, ev_then_rt, ev_then_bk, ev_then_ct, ev_then_er, ev_ret_nx, ev_ret_rt, ev_ret_er, ev_iff_t, ev_iff_f, ev_set, ev_set_i, ev_set_f, ev_set_e, ev_seto, ev_seto_i, ev_seto_f, ev_seto_e, ev_sret, ev_sret_i, ev_sret_f, ev_sret_e, ev_retv, ev_retv_i, ev_retv_o, ev_retn, ev_asg, ev_asg_i, ev_asg_f, ev_asg_e, ev_asgs, ev_aug, ev_aug_i, ev_app, ev_setix, ev_pop, ev_raise, ev_pass, ev_break, ev_cont, ev_par, ev_par_2, ev_for, ev_for_l, ev_for0, ev_drop, ev_drop_i, ev_drop_f, ev_drop_e, ev_next_nx, ev_next_ct, ev_next_bk, ev_next_rt, ev_next_er, ev_frz0, ev_frz1, ev_nth0, ev_nth1, ev_st0, ev_st1, ev_sets0, ev_sets1, ev_wipe0, ev_wipe1, ev_gname, ev_gtup_t, ev_gtup_l, ev_gcons, ev_gnil, ev_appr, ev_var, ev_var_i, ev_var_o, ev_c, ev_tod_i, ev_tod_f, ev_tol_i, ev_tol_f, ev_tol_o, ev_toa_i, ev_toa_f, ev_toa_o, ev_e1, ev_un1, ev_e2, ev_bi2, ev_int1, ev_int2, ev_sub, ev_neg, ev_abs, ev_max, ev_min, ev_add, ev_add_i, ev_c2, ev_cb2, ev_lt, ev_le, ev_gt, ev_ge, ev_eq, ev_ne, ev_eqi, ev_eqd_i, ev_eqd_b, ev_eqd_s, ev_ixs, ev_sls, ev_lens, ev_its, ev_str, ev_str2, ev_sw, ev_findr, ev_part, ev_ins, ev_nins, ev_eqt, ev_eqat, ev_eqta, ev_eql_ii, ev_eql_if, ev_eql_io, ev_eql_fi, ev_eql_ff, ev_eql_fo, ev_eql_oi, ev_eql_of, ev_eql_oo, ev_not, ev_isn, ev_notn, ev_non_i, ev_non_f, ev_non_o, ev_isnon_n, ev_isnon_i, ev_isnon_b, ev_isnon_s, ev_isnon_t, ev_isnon_l, ev_cmp, ev_blr, ev_bolr, ev_tand, ev_tand_t, ev_tand_f, ev_tor, ev_tor_t, ev_tor_f, ev_tnot, ev_eand, ev_eor, ev_enot, ev_tval, ev_tru_b, ev_tru_l, ev_tru_f, ev_tru_o, ev_ifx, ev_chain, ev_chain_i, ev_anil, ev_acons, ev_lcons, ev_consr, ev_tup, ev_tupr, ev_lst, ev_lstr, ev_ix, ev_ix_t, ev_ix_l, ev_ix_f, ev_ix_o, ev_at0, ev_at1, ev_at2, ev_at3, ev_at4, ev_at5, ev_onone, ev_osome, ev_intr, ev_sl, ev_sl_i, ev_sl_f, ev_sl_o, ev_rev, ev_revr, ev_len, ev_len_t, ev_len_i, ev_len_f, ev_len_o, ev_suml, ev_minl, ev_maxl, ev_mapl, ev_sumi, ev_tuple, ev_list, ev_seq_t, ev_seq_i, ev_seq_f, ev_seq_o, ev_imtup, ev_isi, ev_isit, ev_isi_n, ev_isit_n, ev_isi_b, ev_isit_b, ev_isi_i, ev_isit_i, ev_isi_s, ev_isit_s, ev_isi_t, ev_isit_t, ev_isi_l, ev_isit_l, ev_call, ev_callr, ev_retw_i, ev_retw_f, ev_retw_e, ev_calld, ev_nond, ev_imonly, ev_callk, ev_snoc, ev_callo, ev_calln, ev_call0, ev_noer_i, ev_lc, ev_ttrue, ev_ival, ev_it_t, ev_it_i, ev_it_f, ev_izip, ev_zip3, ev_zip3_l, ev_zip_ll, ev_zip_lt, ev_zip_tl, ev_zip_tt, ev_int, ev_int_b, ev_int_i, ev_rg1, ev_rg2, ev_rg3, ev_inl, ev_nin, ev_int_, ev_nint, ev_isb, ev_isbr, ev_isx, ev_try, ev_try_nx, ev_try_rt, ev_lc1, ev_lca, ev_lct_t, ev_lct_f, ev_free0, ev_free1, ev_free_n, ev_free_i, ev_free_o, ev_lcn0, ev_lcn1, ev_opt_s, ev_opt_n, ev_oni, ev_oni_s, ev_ints0, ev_ints1, ev_ty_NoneType_int, ev_ty_NoneType_bool, ev_ty_NoneType_str, ev_ty_NoneType_tuple, ev_ty_NoneType_list, ev_ty_bool_int, ev_ty_bool_bool, ev_ty_bool_str, ev_ty_bool_tuple, ev_ty_bool_list, ev_ty_int_int, ev_ty_int_bool, ev_ty_int_str, ev_ty_int_tuple, ev_ty_int_list, ev_ty_str_int, ev_ty_str_bool, ev_ty_str_str, ev_ty_str_tuple, ev_ty_str_list, ev_ty_tuple_int, ev_ty_tuple_bool, ev_ty_tuple_str, ev_ty_tuple_tuple, ev_ty_tuple_list, ev_ty_list_int, ev_ty_list_bool, ev_ty_list_str, ev_ty_list_tuple, ev_ty_list_list, ev_t3ix0, ev_t3ix1, ev_t3ix2, ev_t3tup, ev_t3len, ev_t3isi, ev_t3non, ev_q4ix0, ev_q4ix1, ev_q4ix2, ev_q4ix3, ev_q4tup, ev_q4len, ev_q4isi, ev_q4non, ev_t3eq, ev_q4eq, ev_t3noL, ev_nc0, ev_nc1, ev_nc2, ev_nc3, ev_nc4, ev_nc5, ev_nc6, ev_nc7, ev_nc8, ev_nc9, ev_nc10, ev_nc11, ev_nc12, ev_nc13, ev_nc14, ev_nc15, ev_nc16, ev_nc17, ev_nc18, ev_nc19, ev_nc20, ev_nc21, ev_nc22, ev_nc23, ev_nc24, ev_nc25, ev_nc26, ev_nc27, ev_nc28, ev_nc29, ev_nc30, ev_nc31, ev_nc32, ev_nc33, ev_nc34, ev_nc35, ev_nc36, ev_nc37, ev_nc38, ev_nc39, ev_nc40])
local macro_rules | `(tactic| walk_at "evs") => `(tactic| try simp -implicitDefEqProofs (disch := walk_at "dis") only [ev_addl_ff, ev_addl_ii, ev_addl_if, ev_addl_fi, ev_addl_oi, ev_addl_of, ev_addt, not_true_eq_false, not_false_eq_true, fnR, startF, cut_map, inR_ints, retN_at, eqD_quads, eqD_t3s, eqD_ints, eqD_t3, eqD_q4, List.length_map, Int.reduceToNat, Int.reducePow, Int.reduceMul, Int.reduceSub, Int.reduceAdd, Int.reduceNeg, Int.reduceEq, Int.reduceNe, Int.reduceLT, Int.reduceLE, lcT_b, decide_true, decide_false, List.map_cons, List.map_nil, List.length_cons, List.length_nil, List.cons_append, List.nil_append, Nat.reduceAdd, Nat.reduceSub, List.replicate_succ, List.replicate_zero, List.append_nil, List.append_assoc, mulZ_ok, fdivZ_pos, modZ_pos, powZ_ok, ifF_dec, ifF_bool, andF_bool, orF_bool, Bool.not_true, Bool.not_false, Bool.and_true, Bool.true_and, Bool.false_and, Bool.and_false, Bool.true_or, Bool.or_true, Bool.false_or, Bool.or_false, List.any_cons, List.any_nil, Bool.true_eq_false, decide_eq_true_eq, reduceIte, Bool.false_eq_true, Bool.not_eq_true', decide_eq_false_iff_not, rng1_ok, rng2_ok, lcGo_le, appV_le, intsOf_ints, Option.map_some, then_ite, retO_ite, ev_sq, ev_if, ev_then_nx, ev_then_rt, ev_then_bk, ev_then_ct, ev_then_er, ev_ret_nx, ev_ret_rt, ev_ret_er, ev_iff_t, ev_iff_f, ev_set, ev_set_i, ev_set_f, ev_set_e, ev_seto, ev_seto_i, ev_seto_f, ev_seto_e, ev_sret, ev_sret_i, ev_sret_f, ev_sret_e, ev_retv, ev_retv_i, ev_retv_o, ev_retn, ev_asg, ev_asg_i, ev_asg_f, ev_asg_e, ev_asgs, ev_aug, ev_aug_i, ev_app, ev_setix, ev_pop, ev_raise, ev_pass, ev_break, ev_cont, ev_par, ev_par_2, ev_for, ev_for_l, ev_for0, ev_drop, ev_drop_i, ev_drop_f, ev_drop_e, ev_next_nx, ev_next_ct, ev_next_bk, ev_next_rt, ev_next_er, ev_frz0, ev_frz1, ev_nth0, ev_nth1, ev_st0, ev_st1, ev_sets0, ev_sets1, ev_wipe0, ev_wipe1, ev_gname, ev_gtup_t, ev_gtup_l, ev_gcons, ev_gnil, ev_appr, ev_var, ev_var_i, ev_var_o, ev_c, ev_tod_i, ev_tod_f, ev_tol_i, ev_tol_f, ev_tol_o, ev_toa_i, ev_toa_f, ev_toa_o, ev_e1, ev_un1, ev_e2, ev_bi2, ev_int1, ev_int2, ev_sub, ev_neg, ev_abs, ev_max, ev_min, ev_add, ev_add_i, ev_c2, ev_cb2, ev_lt, ev_le, ev_gt, ev_ge, ev_eq, ev_ne, ev_eqi, ev_eqd_i, ev_eqd_b, ev_eqd_s, ev_ixs, ev_sls, ev_lens, ev_its, ev_str, ev_str2, ev_sw, ev_findr, ev_part, ev_ins, ev_nins, ev_eqt, ev_eqat, ev_eqta, ev_eql_ii, ev_eql_if, ev_eql_io, ev_eql_fi, ev_eql_ff, ev_eql_fo, ev_eql_oi, ev_eql_of, ev_eql_oo, ev_not, ev_isn, ev_notn, ev_non_i, ev_non_f, ev_non_o, ev_isnon_n, ev_isnon_i, ev_isnon_b, ev_isnon_s, ev_isnon_t, ev_isnon_l, ev_cmp, ev_blr, ev_bolr, ev_tand, ev_tand_t, ev_tand_f, ev_tor, ev_tor_t, ev_tor_f, ev_tnot, ev_eand, ev_eor, ev_enot, ev_tval, ev_tru_b, ev_tru_l, ev_tru_f, ev_tru_o, ev_ifx, ev_chain, ev_chain_i, ev_anil, ev_acons, ev_lcons, ev_consr, ev_tup, ev_tupr, ev_lst, ev_lstr, ev_ix, ev_ix_t, ev_ix_l, ev_ix_f, ev_ix_o, ev_at0, ev_at1, ev_at2, ev_at3, ev_at4, ev_at5, ev_onone, ev_osome, ev_intr, ev_sl, ev_sl_i, ev_sl_f, ev_sl_o, ev_rev, ev_revr, ev_len, ev_len_t, ev_len_i, ev_len_f, ev_len_o, ev_suml, ev_minl, ev_maxl, ev_mapl, ev_sumi, ev_tuple, ev_list, ev_seq_t, ev_seq_i, ev_seq_f, ev_seq_o, ev_imtup, ev_isi, ev_isit, ev_isi_n, ev_isit_n, ev_isi_b, ev_isit_b, ev_isi_i, ev_isit_i, ev_isi_s, ev_isit_s, ev_isi_t, ev_isit_t, ev_isi_l, ev_isit_l, ev_call, ev_callr, ev_retw_i, ev_retw_f, ev_retw_e, ev_calld, ev_nond, ev_imonly, ev_callk, ev_snoc, ev_callo, ev_calln, ev_call0, ev_noer_i, ev_lc, ev_ttrue, ev_ival, ev_it_t, ev_it_i, ev_it_f, ev_izip, ev_zip3, ev_zip3_l, ev_zip_ll, ev_zip_lt, ev_zip_tl, ev_zip_tt, ev_int, ev_int_b, ev_int_i, ev_rg1, ev_rg2, ev_rg3, ev_inl, ev_nin, ev_int_, ev_nint, ev_isb, ev_isbr, ev_isx, ev_try, ev_try_nx, ev_try_rt, ev_lc1, ev_lca, ev_lct_t, ev_lct_f, ev_free0, ev_free1, ev_free_n, ev_free_i, ev_free_o, ev_lcn0, ev_lcn1, ev_opt_s, ev_opt_n, ev_oni, ev_oni_s, ev_ints0, ev_ints1, ev_ty_NoneType_int, ev_ty_NoneType_bool, ev_ty_NoneType_str, ev_ty_NoneType_tuple, ev_ty_NoneType_list, ev_ty_bool_int, ev_ty_bool_bool, ev_ty_bool_str, ev_ty_bool_tuple, ev_ty_bool_list, ev_ty_int_int, ev_ty_int_bool, ev_ty_int_str, ev_ty_int_tuple, ev_ty_int_list, ev_ty_str_int, ev_ty_str_bool, ev_ty_str_str, ev_ty_str_tuple, ev_ty_str_list, ev_ty_tuple_int, ev_ty_tuple_bool, ev_ty_tuple_str, ev_ty_tuple_tuple, ev_ty_tuple_list, ev_ty_list_int, ev_ty_list_bool, ev_ty_list_str, ev_ty_list_tuple, ev_ty_list_list, ev_t3ix0, ev_t3ix1, ev_t3ix2, ev_t3tup, ev_t3len, ev_t3isi, ev_t3non, ev_q4ix0, ev_q4ix1, ev_q4ix2, ev_q4ix3, ev_q4tup, ev_q4len, ev_q4isi, ev_q4non, ev_t3eq, ev_q4eq, ev_t3noL, ev_nc0, ev_nc1, ev_nc2, ev_nc3, ev_nc4, ev_nc5, ev_nc6, ev_nc7, ev_nc8, ev_nc9, ev_nc10, ev_nc11, ev_nc12, ev_nc13, ev_nc14, ev_nc15, ev_nc16, ev_nc17, ev_nc18, ev_nc19, ev_nc20, ev_nc21, ev_nc22, ev_nc23, ev_nc24, ev_nc25, ev_nc26, ev_nc27, ev_nc28, ev_nc29, ev_nc30, ev_nc31, ev_nc32, ev_nc33, ev_nc34, ev_nc35, ev_nc36, ev_nc37, ev_nc38, ev_nc39, ev_nc40, *])
local macro_rules | `(tactic| walk_at "sets") => `(tactic| simp only [List.cons_append, List.nil_append, ev_sets1, ev_sets0, ev_st0, ev_st1])

-- is_whole: thing
noncomputable def m_is_whole : List D → R Ret := fnR 1
  (sq (sIf (tOr (cIsB true (eVar 0)) (cIsB false (eVar 0))) (sq (sRet (eC (.bl false)))
  .nx) .nx)
  (sq (sRet (eIsi (eVar 0) "int"))
  .nx))
-- is_near: thing
noncomputable def m_is_near : List D → R Ret := fnR 1
  (sq (sRet (eAnd (eCall m_is_whole (aCons (eVar 0) aNil)) (eCmp (cLt (eAbs (eVar 0)) (eC (.int 1000000000000))))))
  .nx)
-- is_dot: row
noncomputable def m_is_dot_r1 : Fr → O :=
  (sq (sRet (eAnd (eCmp (cChain (fun i j => decide (i ≤ j)) (fun i j => decide (i ≤ j)) (eC (.int 0)) (eIx (eVar 0) (eC (.int 2))) (eC (.int 2)))) (eCmp (cChain (fun i j => decide (i ≤ j)) (fun i j => decide (i < j)) (eC (.int 1)) (eIx (eVar 0) (eC (.int 3))) (eC (.int 1000000000))))))
  .nx)
noncomputable def m_is_dot_r2 : Fr → O :=
  (sq (sIf (tOr (tNot (tVal (eCall m_is_near (aCons (eIx (eVar 0) (eC (.int 0))) aNil)))) (tOr (tNot (tVal (eCall m_is_near (aCons (eIx (eVar 0) (eC (.int 1))) aNil)))) (tOr (tNot (tVal (eCall m_is_whole (aCons (eIx (eVar 0) (eC (.int 2))) aNil)))) (tNot (tVal (eCall m_is_whole (aCons (eIx (eVar 0) (eC (.int 3))) aNil))))))) (sq (sRet (eC (.bl false)))
  .nx) .nx)
  m_is_dot_r1)
noncomputable def m_is_dot : List D → R Ret := fnR 1
  (sq (sIf (tOr (tNot (tVal (eIsiT (eVar 0) ["list", "tuple"]))) (cNe (eLen (eVar 0)) (eC (.int 4)))) (sq (sRet (eC (.bl false)))
  .nx) .nx)
  m_is_dot_r2)
-- made_dots: rows row
noncomputable def m_made_dots_b1 : Fr → O :=
  (sq (sIf (tNot (tVal (eCall m_is_dot (aCons (eVar 1) aNil)))) (sq (sRaise "NoDots")
  .nx) .nx)
  .nx)
noncomputable def m_made_dots_r1 : Fr → O :=
  (sq (sFor (gName 1) (iVal (eVar 0)) m_made_dots_b1)
  (sq (sRet (eLc [1] (gName 1) (iVal (eVar 0)) tTrue (eTuple (eVar 1))))
  .nx))
noncomputable def m_made_dots : List D → R Ret := fnR 2
  (sq (sIf (tOr (tNot (tVal (eIsi (eVar 0) "list"))) (cGt (eLen (eVar 0)) (eC (.int 30)))) (sq (sRaise "NoDots")
  .nx) .nx)
  m_made_dots_r1)
-- _law_whole: _law_found
noncomputable def m_law_whole : List D → R Ret := fnR 1
  (sq (sRet (eAnd (eIsi (eVar 0) "int") (eNot (eIsi (eVar 0) "bool"))))
  .nx)
-- _law_cell_at: _law_script _law_k
noncomputable def m_law_cell_at : List D → R Ret := fnR 2
  (sq (sIf (cLt (eVar 1) (eLen (eVar 0))) (sq (sRet (eIx (eVar 0) (eVar 1)))
  .nx) .nx)
  (sq (sRet (eC (.int 0)))
  .nx))
-- _law_stream: _law_cell _law_many _law_found _law_number _law_k
noncomputable def m_law_stream_b1 : Fr → O :=
  (sq (sSet 3 (eMod (eAdd (eAdd (eMul (eVar 3) (eC (.int 48271))) (eMul (eVar 4) (eVar 4))) (eC (.int 11))) (eC (.int 2147483647))))
  (sq (sApp 2 (eDiv (eVar 3) (eC (.int 7))))
  .nx))
noncomputable def m_law_stream : List D → R Ret := fnR 5
  (sq (sSetO 2 (eLst aNil))
  (sq (sSet 3 (eAdd (eMod (eVar 0) (eC (.int 2147483647))) (eC (.int 48271))))
  (sq (sFor (gName 4) (iRange1 (eVar 1)) m_law_stream_b1)
  (sq (sRetV 2)
  .nx))))
-- _law_far: _law_number
noncomputable def m_law_far_i1 : Fr → O :=
  (sq (sRet (eIx (eLst (aCons (eSub (ePow (eC (.int 10)) (eC (.int 12))) (eC (.int 1))) (aCons (eSub (eC (.int 1)) (ePow (eC (.int 10)) (eC (.int 12)))) aNil))) (eMod (eDiv (eVar 0) (eC (.int 9))) (eC (.int 2)))))
  .nx)
noncomputable def m_law_far_r1 : Fr → O :=
  (sq (sRet (eAdd (eSub (eMod (eMul (eVar 0) (eC (.int 982451653))) (eSub (eMul (eC (.int 2)) (ePow (eC (.int 10)) (eC (.int 12)))) (eC (.int 1)))) (ePow (eC (.int 10)) (eC (.int 12)))) (eC (.int 1))))
  .nx)
noncomputable def m_law_far : List D → R Ret := fnR 1
  (sq (sIf (cEq (eMod (eVar 0) (eC (.int 3))) (eC (.int 0))) (sq (sRet (eSub (eMod (eDiv (eVar 0) (eC (.int 3))) (eC (.int 19))) (eC (.int 9))))
  .nx) .nx)
  (sq (sIf (cEq (eMod (eVar 0) (eC (.int 9))) (eC (.int 1))) m_law_far_i1 .nx)
  m_law_far_r1))
-- _law_heavy: _law_number
noncomputable def m_law_heavy_r1 : Fr → O :=
  (sq (sRet (eAdd (eC (.int 1)) (eMod (eMul (eVar 0) (eC (.int 48271))) (eSub (ePow (eC (.int 10)) (eC (.int 9))) (eC (.int 1))))))
  .nx)
noncomputable def m_law_heavy_r2 : Fr → O :=
  (sq (sIf (cEq (eMod (eVar 0) (eC (.int 9))) (eC (.int 1))) (sq (sRet (eSub (ePow (eC (.int 10)) (eC (.int 9))) (eC (.int 1))))
  .nx) .nx)
  m_law_heavy_r1)
noncomputable def m_law_heavy : List D → R Ret := fnR 1
  (sq (sIf (cEq (eMod (eVar 0) (eC (.int 3))) (eC (.int 0))) (sq (sRet (eAdd (eC (.int 1)) (eMod (eDiv (eVar 0) (eC (.int 3))) (eC (.int 9)))))
  .nx) .nx)
  m_law_heavy_r2)
-- _law_row: _law_cell _law_xs _law_row_here
noncomputable def m_law_row : List D → R Ret := fnR 3
  (sq (sSet 1 (eCall m_law_stream (aCons (eVar 0) (aCons (eC (.int 5)) aNil))))
  (sq (sSet 2 (eLst (aCons (eCall m_law_far (aCons (eIx (eVar 1) (eC (.int 0))) aNil)) (aCons (eCall m_law_far (aCons (eIx (eVar 1) (eC (.int 1))) aNil)) (aCons (eMod (eIx (eVar 1) (eC (.int 2))) (eC (.int 3))) (aCons (eCall m_law_heavy (aCons (eIx (eVar 1) (eC (.int 3))) aNil)) aNil))))))
  (sq (sIf (cEq (eMod (eIx (eVar 1) (eC (.int 4))) (eC (.int 2))) (eC (.int 1))) (sq (sRet (eTuple (eVar 2)))
  .nx) .nx)
  (sq (sRetV 2)
  .nx))))
-- _law_bad: _law_number _law_row_here _law_x _law_y _law_painted _law_weight _law_some
noncomputable def m_law_bad : List D → R Ret := fnR 7
  (sq (sAsg (gTup (gCons (gName 2) (gCons (gName 3) (gCons (gName 4) (gCons (gName 5) gNil))))) (eVar 1))
  (sq (sSet 6 (eLst (aCons (eLst (aCons (eVar 2) (aCons (eVar 3) (aCons (eVar 4) aNil)))) (aCons (eLst (aCons (eVar 2) (aCons (eVar 3) (aCons (eVar 4) (aCons (eVar 5) (aCons (eC (.int 0)) aNil)))))) (aCons (eLst aNil) (aCons (eC .non) (aCons (eC (.int 4)) (aCons (eC (.str "0,0a")) aNil))))))))
  (sq (sSet 6 (eAdd (eVar 6) (eLst (aCons (eTup (aCons (ePow (eC (.int 10)) (eC (.int 12))) (aCons (eVar 3) (aCons (eVar 4) (aCons (eVar 5) aNil))))) (aCons (eTup (aCons (eVar 2) (aCons (eSub (eC (.int 0)) (ePow (eC (.int 10)) (eC (.int 12)))) (aCons (eVar 4) (aCons (eVar 5) aNil))))) aNil)))))
  (sq (sSet 6 (eAdd (eVar 6) (eLst (aCons (eLst (aCons (eVar 2) (aCons (eVar 3) (aCons (eC (.int 3)) (aCons (eVar 5) aNil))))) (aCons (eTup (aCons (eVar 2) (aCons (eVar 3) (aCons (eNeg (eC (.int 1))) (aCons (eVar 5) aNil))))) (aCons (eLst (aCons (eVar 2) (aCons (eVar 3) (aCons (eVar 4) (aCons (eC (.int 0)) aNil))))) (aCons (eTup (aCons (eVar 2) (aCons (eVar 3) (aCons (eVar 4) (aCons (eNeg (eC (.int 1))) aNil))))) aNil)))))))
  (sq (sSet 6 (eAdd (eVar 6) (eLst (aCons (eLst (aCons (eVar 2) (aCons (eVar 3) (aCons (eVar 4) (aCons (ePow (eC (.int 10)) (eC (.int 9))) aNil))))) (aCons (eTup (aCons (eC (.bl true)) (aCons (eVar 3) (aCons (eVar 4) (aCons (eVar 5) aNil))))) (aCons (eLst (aCons (eVar 2) (aCons (eC .non) (aCons (eVar 4) (aCons (eVar 5) aNil))))) aNil))))))
  (sq (sSet 6 (eAdd (eVar 6) (eLst (aCons (eTup (aCons (eVar 2) (aCons (eVar 3) (aCons (eC (.bl false)) (aCons (eVar 5) aNil))))) (aCons (eTup (aCons (eVar 2) (aCons (eVar 3) (aCons (eVar 4) (aCons (eC (.bl true)) aNil))))) (aCons (eLst (aCons (eC (.str "1")) (aCons (eVar 3) (aCons (eVar 4) (aCons (eVar 5) aNil))))) aNil))))))
  (sq (sRet (eIx (eAdd (eVar 6) (eLst (aCons (eTup (aCons (eVar 2) (aCons (eVar 3) (aCons (eC (.str "a")) (aCons (eVar 5) aNil))))) (aCons (eTup (aCons (eVar 2) (aCons (eVar 3) (aCons (eC .non) (aCons (eVar 5) aNil))))) (aCons (eC .dct) (aCons (eC .dct) aNil)))))) (eMod (eVar 0) (eC (.int 22)))))
  .nx)))))))
-- _law_refused: _law_rows _law_caught error
noncomputable def m_law_refused_r1 : Fr → O :=
  (sq (sRet (eAnd (eNot (eIsx (eVar 1) "NoMap" [("NoDots", false)])) (eAnd (eNot (eIsx (eVar 1) "TooMany" [("NoDots", false)])) (eNot (eIsx (eVar 1) "NoPlace" [("NoDots", false)])))))
  .nx)
noncomputable def m_law_refused_r2 : Fr → O :=
  (sq (sIf (tOr (cIsN (eVar 1)) (tOr (tNot (tVal (eIsx (eVar 1) "NoDots" [("NoDots", true)]))) (tNot (tVal (eIsx (eVar 1) "ValueError" [("NoDots", true)]))))) (sq (sRet (eC (.bl false)))
  .nx) .nx)
  m_law_refused_r1)
noncomputable def m_law_refused : List D → R Ret := fnR 3
  (sq (sSet 1 (eC .non))
  (sq (sTry 2 ["NoDots"] (sq (sDrop (eCall m_made_dots (aCons (eVar 0) aNil)))
  .nx) (sq (sSet 1 (eVar 2))
  .nx))
  m_law_refused_r2))
-- _law_good: _law_found _law_rows _law_dot _law_row_here _law_here _law_there
noncomputable def m_law_good_b2 : Fr → O :=
  (sq (sIf (tOr (tNot (tVal (eCall m_law_whole (aCons (eVar 4) aNil)))) (cNe (eVar 4) (eVar 5))) (sq (sRet (eC (.bl false)))
  .nx) .nx)
  .nx)
noncomputable def m_law_good_b1 : Fr → O :=
  (sq (sIf (tOr (tNot (tVal (eIsi (eVar 2) "tuple"))) (cNe (eLen (eVar 2)) (eC (.int 4)))) (sq (sRet (eC (.bl false)))
  .nx) .nx)
  (sq (sFor (gTup (gCons (gName 4) (gCons (gName 5) gNil))) (iZipA (eVar 2) (eVar 3)) m_law_good_b2)
  .nx))
noncomputable def m_law_good_r1 : Fr → O :=
  (sq (sFor (gTup (gCons (gName 2) (gCons (gName 3) gNil))) (iZipA (eVar 0) (eVar 1)) m_law_good_b1)
  (sq (sRet (eC (.bl true)))
  .nx))
noncomputable def m_law_good : List D → R Ret := fnR 6
  (sq (sIf (tOr (tNot (tVal (eIsi (eVar 0) "list"))) (cNe (eLen (eVar 0)) (eLen (eVar 1)))) (sq (sRet (eC (.bl false)))
  .nx) .nx)
  m_law_good_r1)
-- _law_copy: _law_row_here
noncomputable def m_law_copy : List D → R D := fun ds =>
  (xIf (tVal (eIsi (eVar 0) "list")) (xOf (eList (eVar 0))) (xOf (eVar 0))) (startF 1 ds)
-- law: _law_script _law_first _law_cells _law_cell _law_rows _law_row_here _law_handed _law_found _law_bad_here _law_at _law_number _law_many
noncomputable def m_law_r1 : Fr → O :=
  (sq (sApp 7 (eC (.int 0)))
  (sq (sRet (eAnd (eCall m_law_good (aCons (eCall m_made_dots (aCons (eVar 4) aNil)) (aCons (eVar 4) aNil))) (eCall m_law_good (aCons (eCall m_made_dots (aCons (eLst aNil) aNil)) (aCons (eLst aNil) aNil)))))
  .nx))
noncomputable def m_law_r2 : Fr → O :=
  (sq (sSet 11 (eLc [10] (gName 10) (iVal (eCall m_law_stream (aCons (eVar 1) (aCons (eAdd (eSub (eC (.int 31)) (eLen (eVar 4))) (eMod (eVar 1) (eC (.int 3)))) aNil)))) tTrue (eCall m_law_row (aCons (eVar 10) aNil))))
  (sq (sIf (tNot (tVal (eCall m_law_refused (aCons (eAdd (eVar 4) (eVar 11)) aNil)))) (sq (sRet (eC (.bl false)))
  .nx) .nx)
  m_law_r1))
noncomputable def m_law_r3 : Fr → O :=
  (sq (sIf (tNot (tVal (eCall m_law_refused (aCons (eIx (eLst (aCons (eTuple (eVar 4)) (aCons (eC .non) (aCons (eC (.int 0)) (aCons (eC (.str "")) (aCons (eC .dct) (aCons (eC (.bl true)) aNil))))))) (eMod (eDiv (eVar 1) (eC (.int 21))) (eC (.int 6)))) aNil)))) (sq (sRet (eC (.bl false)))
  .nx) .nx)
  m_law_r2)
noncomputable def m_law_r4 : Fr → O :=
  (sq (sSet 8 (eCall m_law_bad (aCons (eDiv (eVar 1) (eC (.int 7))) (aCons (eCall m_law_row (aCons (eVar 1) aNil)) aNil))))
  (sq (sSet 9 (eMod (eDiv (eVar 1) (eC (.int 154))) (eAdd (eLen (eVar 4)) (eC (.int 1)))))
  (sq (sIf (tNot (tVal (eCall m_law_refused (aCons (eAdd (eAdd (eSl (eVar 4) oNone (oSome (eVar 9))) (eLst (aCons (eVar 8) aNil))) (eSl (eVar 4) (oSome (eVar 9)) oNone)) aNil)))) (sq (sRet (eC (.bl false)))
  .nx) .nx)
  m_law_r3)))
noncomputable def m_law_r5 : Fr → O :=
  (sq (sAppR 6 (eC .non))
  (fun E => (sq (sIf (tOr (tNot (tVal (eCallO m_law_good (lCons (eVar 7) (aCons (eVar 4) aNil))))) (tNot (tVal (eCall m_law_refused (aCons (eVar 6) aNil))))) (sq (sRet (eC (.bl false)))
  .nx) .nx)
  m_law_r4) (frzs E [6])))
noncomputable def m_law : List D → R Ret := fnR 12
  (sq (sSet 1 (eCall m_law_cell_at (aCons (eVar 0) (aCons (eC (.int 0)) aNil))))
  (sq (sSet 2 (eAdd (eSl (eVar 0) (oSome (eC (.int 1))) (oSome (eC (.int 30)))) (eCall m_law_stream (aCons (eVar 1) (aCons (eMod (eVar 1) (eC (.int 7))) aNil)))))
  (sq (sSet 4 (eLc [3] (gName 3) (iVal (eSl (eVar 2) oNone (oSome (eC (.int 29))))) tTrue (eCall m_law_row (aCons (eVar 3) aNil))))
  (sq (sSetX 6 (xLc [5] (gName 5) (iVal (eVar 4)) (xCallT m_law_copy (aCons (eVar 5) aNil))))
  (sq (sSetO 7 (bor 6 (eCall m_made_dots (aCons (eVar 6) aNil))))
  (sq (sIf (borT 6 (tOr (tNot (tVal (eCallO m_law_good (lCons (eVar 7) (aCons (eVar 4) aNil))))) (cNe (eVar 6) (eVar 4)))) (sq (sRet (eC (.bl false)))
  .nx) .nx)
  (sq (sMark 6 5 (eMod (eVar 1) (eC (.int 4))) 7)
  m_law_r5)))))))
/-! ### cells -/
@[irreducible] def cellZ (ns : List Int) (k : Int) : Int := ns.getD k.toNat 0
theorem cellZ_sz {ns : List Int} {n : Nat} (h : ∀ z ∈ ns, Sz n z) (k : Int) : Sz n (cellZ ns k) := by
  unfold cellZ
  rw [List.getD_eq_getElem?_getD]
  cases e : ns[k.toNat]? with
  | none => exact Sz.zero n
  | some z => exact h z (List.mem_of_getElem? e)
/-- a dot: its coordinates are small -/
structure DotOk (n : Nat) (q : P4) : Prop where
  x : Sz n q.1
  y : Sz n q.2.1

/-! ### loops that may stop -/
theorem forN_stop {α : Type} {enc : α → D} {g : D → R (List (Nat × D))} {f : Fr → O} (Iv : Fr → Prop) (good : α → Bool) (stop : O → Prop) (hs : ∀ o k, stop o → nextO o k = o) :
    ∀ (xs : List α) (E : Fr), (∀ E x, x ∈ xs → Iv E → ∃ ss, g (enc x) = .ok ss ∧ ((good x = true ∧ ∃ E', (f (setsF E ss) = .nx E' ∨ f (setsF E ss) = .ct E') ∧ Iv E') ∨ (good x = false ∧ stop (f (setsF E ss))))) → Iv E →
      (xs.all good = true ∧ ∃ E', forN g f (xs.map enc) E = .nx E' ∧ Iv E') ∨ (xs.all good = false ∧ stop (forN g f (xs.map enc) E))
  | [], E, _, i => .inl ⟨rfl, E, rfl, i⟩
  | x :: xs, E, h, i => by
    obtain ⟨ss, h1, h2⟩ := h E x List.mem_cons_self i
    rw [List.map_cons, forN, h1, List.all_cons]
    dsimp only
    rcases h2 with ⟨g1, E1, g2, g3⟩ | ⟨g1, g2⟩
    · rw [g1, Bool.true_and]
      have r := forN_stop Iv good stop hs xs E1 (fun E y hy iv => h E y (List.mem_cons_of_mem _ hy) iv) g3
      rcases g2 with g2 | g2 <;> rw [g2] <;> exact r
    · rw [g1, hs _ _ g2]
      exact .inr ⟨rfl, g2⟩
theorem try_nx {i : Nat} {L : List Str} {n : Str} {E E' : Fr} {s : Fr → O} (h : L.contains n = true) (k : s (setS E i (.im (.exc n))) = .nx E') : tryO i L (.er n E) s = .nx (setS E' i .no) := by
  unfold tryO
  dsimp only
  rw [if_pos h, k]
theorem try_rt {i : Nat} {L : List Str} {n : Str} {E : Fr} {s : Fr → O} {r : Ret} (h : L.contains n = true) (k : s (setS E i (.im (.exc n))) = .rt r) : tryO i L (.er n E) s = .rt r := by
  unfold tryO
  dsimp only
  rw [if_pos h, k]

section

theorem stream_ok {c many : Int} (h1 : 0 ≤ many ∧ many ≤ 100) : ∃ ns, m_law_stream [.int c, .int many] = .ok (.fr (D.ints ns)) ∧ ns.length = many.toNat ∧ ∀ z ∈ ns, 0 ≤ z ∧ z < 1000000000 := by
  obtain ⟨h1, h2⟩ := h1
  unfold m_law_stream
  walk_at "ev"
  obtain ⟨E, k1, ns, k, a, k2, k3, k4, k5⟩ := forN_rng (g := gName 4) (f := m_law_stream_b1)
    (fun i E => ∃ ns k a, E = [.im (.int c), .im (.int many), .ow (D.ints ns), .im (.int k), a] ∧ ns.length = i ∧ (0 ≤ k ∧ k < 4294967296) ∧ ∀ z ∈ ns, 0 ≤ z ∧ z < 1000000000) 0 many.toNat [.im (.int c), .im (.int many), .ow [], .im (.int (c % 2147483647 + 48271)), .no]
    (fun i E hi ⟨ns, k, a, e, k3, k4, k5⟩ => by
      subst e
      refine ⟨_, rfl, ?_⟩
      have hn : ns.length ≤ 1000 := by omega
      have sk : Sz 40 k := .of_lt 4294967296 (by omega) (by decide)
      have sx : Sz 10 (0 + (i : Int)) := .of_lt 1000 (by omega) (by decide)
      unfold m_law_stream_b1
      walk_at "ev"
      rw [ints_snoc]
      refine ⟨_, .inl rfl, _, _, _, rfl, ?_, ?_, all_snoc k5 ?_⟩
      · rw [List.length_append, k3, List.length_cons, List.length_nil]
      · omega
      · omega) ⟨[], _, _, rfl, rfl, by omega, fun z hz => by cases hz⟩
  subst k2
  refine ⟨ns, ?_, k3, k5⟩
  rw [k1]
  walk_at "ev"
/-- a dot as the laws draw them -/
structure Dot (q : P4) : Prop where
  x : -1000000000000 < q.1 ∧ q.1 < 1000000000000
  y : -1000000000000 < q.2.1 ∧ q.2.1 < 1000000000000
  c : 0 ≤ q.2.2.1 ∧ q.2.2.1 < 3
  w : 1 ≤ q.2.2.2 ∧ q.2.2.2 < 1000000000
theorem Dot.ok {q : P4} (h : Dot q) : DotOk 100 q := ⟨.of_lt 1000000000000 (by have := h.x; omega) (by decide +kernel), .of_lt 1000000000000 (by have := h.y; omega) (by decide +kernel)⟩
theorem pow12 : (10 : Int) ^ (12 : Int).toNat = 1000000000000 := by decide +kernel
theorem mod4 (k : Int) : k % 4 = 0 ∨ k % 4 = 1 ∨ k % 4 = 2 ∨ k % 4 = 3 := by omega
theorem mod3 (k : Int) : k % 3 = 0 ∨ k % 3 = 1 ∨ k % 3 = 2 := by omega
theorem pick4 {x0 x1 x2 x3 : D} (k : Int) (p : D → Prop) (h0 : p x0) (h1 : p x1) (h2 : p x2) (h3 : p x3) : ∃ x, atR [x0, x1, x2, x3] (k % 4) = .ok (.im x) ∧ p x := by
  rcases mod4 k with h | h | h | h <;> rw [h] <;> walk_at "ev"
  · exact ⟨_, rfl, h0⟩
  · exact ⟨_, rfl, h1⟩
  · exact ⟨_, rfl, h2⟩
  · exact ⟨_, rfl, h3⟩
theorem pick3 {x0 x1 x2 : D} (k : Int) (p : D → Prop) (h0 : p x0) (h1 : p x1) (h2 : p x2) : ∃ x, atR [x0, x1, x2] (k % 3) = .ok (.im x) ∧ p x := by
  rcases mod3 k with h | h | h <;> rw [h] <;> walk_at "ev"
  · exact ⟨_, rfl, h0⟩
  · exact ⟨_, rfl, h1⟩
  · exact ⟨_, rfl, h2⟩
end

section

theorem atR_ints {ns : List Int} {k : Int} (h0 : 0 ≤ k) (h : k < ns.length) : atR (D.ints ns) k = .ok (.im (.int (cellZ ns k))) := by
  unfold cellZ
  exact atR_ok (ints_atI h0 h)
theorem cell_at_ok {ns : List Int} {k : Int} (h0 : 0 ≤ k) : m_law_cell_at [.lst (D.ints ns), .int k] = .ok (.im (.int (cellZ ns k))) := by
  unfold m_law_cell_at
  walk_at "ev"
  by_cases h : k < ns.length
  · rw [if_pos h]
    walk_at "ev"
    rw [atR_ints h0 h]
    walk_at "ev"
  · rw [if_neg h]
    walk_at "ev"
    unfold cellZ
    rw [List.getD_eq_getElem?_getD, List.getElem?_eq_none (by omega)]
    rfl
end

section

theorem lcN_ex {α β : Type} {enc : α → D} {h : D → R (Option D)} {f : β → D} {P : β → Prop} : ∀ {xs : List α}, (∀ x ∈ xs, ∃ y, h (enc x) = .ok (some (f y)) ∧ P y) → ∃ ys : List β, lcN h (xs.map enc) = .ok (ys.map f) ∧ ys.length = xs.length ∧ ∀ y ∈ ys, P y
  | [], _ => ⟨[], rfl, rfl, fun y hy => (nomatch hy)⟩
  | x :: xs, k => by
    obtain ⟨y, e, p⟩ := k x List.mem_cons_self
    obtain ⟨ys, e2, l, q⟩ := lcN_ex (enc := enc) (h := h) (f := f) (P := P) (xs := xs) fun z hz => k z (List.mem_cons_of_mem _ hz)
    refine ⟨y :: ys, ?_, by rw [List.length_cons, List.length_cons, l], fun z hz => ?_⟩
    · rw [List.map_cons, lcN, e2, e]; rfl
    · rcases List.mem_cons.1 hz with w | w
      · rw [w]; exact p
      · exact q z w
end

/-! ### k11: near, is_dot, made_dots, ask_map -/
def nearZ (z : Int) : Bool := decide ((z.natAbs : Int) < 1000000000000)
theorem nearZ_iff {z : Int} : nearZ z = true ↔ -1000000000000 < z ∧ z < 1000000000000 := by unfold nearZ; rw [decide_eq_true_eq]; omega
theorem nearZ_no {z : Int} : nearZ z = false ↔ ¬(-1000000000000 < z ∧ z < 1000000000000) := by rw [← nearZ_iff]; simp
theorem nearZ_sz {z : Int} (h : nearZ z = true) : Sz 42 z := .of_lt 1000000000000 (by have := nearZ_iff.1 h; omega) (by decide +kernel)
theorem is_whole_int (z : Int) : m_is_whole [.int z] = .ok (.im (.bl true)) := by
  unfold m_is_whole
  walk_at "ev"
  simp only [D.isBl]
  walk_at "ev"
theorem is_whole_bl (b : Bool) : m_is_whole [.bl b] = .ok (.im (.bl false)) := by
  unfold m_is_whole
  walk_at "ev"
  cases b <;> simp only [D.isBl] <;> walk_at "ev" <;> rfl
theorem is_whole_non : m_is_whole [.non] = .ok (.im (.bl false)) := by
  unfold m_is_whole
  walk_at "ev"
  simp only [D.isBl]
  walk_at "ev"
theorem is_whole_str (s : Str) : m_is_whole [.str s] = .ok (.im (.bl false)) := by
  unfold m_is_whole
  walk_at "ev"
  simp only [D.isBl]
  walk_at "ev"
theorem is_near_int (z : Int) : m_is_near [.int z] = .ok (.im (.bl (nearZ z))) := by
  unfold m_is_near nearZ
  have hw := is_whole_int
  generalize m_is_whole = mw at hw ⊢
  walk_at "ev"
  rw [hw]
  walk_at "ev"
theorem is_near_bl (b : Bool) : m_is_near [.bl b] = .ok (.im (.bl false)) := by
  unfold m_is_near
  walk_at "ev"
  rw [is_whole_bl]
  walk_at "ev"
theorem is_near_non : m_is_near [.non] = .ok (.im (.bl false)) := by
  unfold m_is_near
  walk_at "ev"
  rw [is_whole_non]
  walk_at "ev"
theorem is_near_str (s : Str) : m_is_near [.str s] = .ok (.im (.bl false)) := by
  unfold m_is_near
  walk_at "ev"
  rw [is_whole_str]
  walk_at "ev"

/-! ### k11: is_dot of anything -/
def sqD (b : Bool) (l : List D) : D := match b with
  | true => .lst l
  | false => .tup l
def smp : D → Bool
  | .at (.int _) => true
  | .at (.bl _) => true
  | .at .non => true
  | .at (.str _) => true
  | _ => false
def wB : D → Bool
  | .at (.int _) => true
  | _ => false
def nB : D → Bool
  | .at (.int z) => nearZ z
  | _ => false
def cB : D → Bool
  | .at (.int z) => decide (0 ≤ z) && decide (z ≤ 2)
  | _ => false
def hB : D → Bool
  | .at (.int z) => decide (1 ≤ z) && decide (z < 1000000000)
  | _ => false
theorem whole_s : ∀ {d : D}, smp d = true → m_is_whole [d] = .ok (.im (.bl (wB d)))
  | .at (.int z), _ => is_whole_int z
  | .at (.bl b), _ => is_whole_bl b
  | .at .non, _ => is_whole_non
  | .at (.str s), _ => is_whole_str s
theorem near_s : ∀ {d : D}, smp d = true → m_is_near [d] = .ok (.im (.bl (nB d)))
  | .at (.int z), _ => is_near_int z
  | .at (.bl b), _ => is_near_bl b
  | .at .non, _ => is_near_non
  | .at (.str s), _ => is_near_str s
theorem wB_int : ∀ {d : D}, wB d = true → ∃ z, d = .int z
  | .at (.int z), _ => ⟨z, rfl⟩
def dotB (a b c d : D) : Bool := nB a && (nB b && (wB c && (wB d && (cB c && hB d))))
theorem dot_r1 {x : D} {c d : Int} (h2 : ixR (.ok (.im x)) (.ok (.int 2)) = .ok (.im (.int c))) (h3 : ixR (.ok (.im x)) (.ok (.int 3)) = .ok (.im (.int d))) : m_is_dot_r1 [.im x] = .rt (.im (.bl (cB (.int c) && hB (.int d)))) := by
  have e2 : eIx (eVar 0) (eC (.int 2)) [.im x] = .ok (.im (.int c)) := h2
  have e3 : eIx (eVar 0) (eC (.int 3)) [.im x] = .ok (.im (.int d)) := h3
  show _ = O.rt (.im (.bl ((decide (0 ≤ c) && decide (c ≤ 2)) && (decide (1 ≤ d) && decide (d < 1000000000)))))
  unfold m_is_dot_r1
  generalize eIx (eVar 0) (eC (.int 2)) = m2 at e2 ⊢
  generalize eIx (eVar 0) (eC (.int 3)) = m3 at e3 ⊢
  have c1 : eCmp (cChain (fun i j => decide (i ≤ j)) (fun i j => decide (i ≤ j)) (eC (.int 0)) m2 (eC (.int 2))) [.im x] = .ok (.im (.bl (decide (0 ≤ c) && decide (c ≤ 2)))) := by
    walk_at "ev"
    rw [e2]
    walk_at "ev"
  have c2 : eCmp (cChain (fun i j => decide (i ≤ j)) (fun i j => decide (i < j)) (eC (.int 1)) m3 (eC (.int 1000000000))) [.im x] = .ok (.im (.bl (decide (1 ≤ d) && decide (d < 1000000000)))) := by
    walk_at "ev"
    rw [e3]
    walk_at "ev"
  generalize eCmp (cChain (fun i j => decide (i ≤ j)) (fun i j => decide (i ≤ j)) (eC (.int 0)) m2 (eC (.int 2))) = k1 at c1 ⊢
  generalize eCmp (cChain (fun i j => decide (i ≤ j)) (fun i j => decide (i < j)) (eC (.int 1)) m3 (eC (.int 1000000000))) = k2 at c2 ⊢
  generalize (decide (0 ≤ c) && decide (c ≤ 2)) = B1 at *
  generalize (decide (1 ≤ d) && decide (d < 1000000000)) = B2 at *
  walk_at "ev"
  rw [c1]
  cases B1
  · walk_at "ev"
  · walk_at "ev"
    rw [c2]
    walk_at "ev"
theorem dot_r2 {x a b c d : D} (i0 : ixR (.ok (.im x)) (.ok (.int 0)) = .ok (.im a)) (i1 : ixR (.ok (.im x)) (.ok (.int 1)) = .ok (.im b)) (i2 : ixR (.ok (.im x)) (.ok (.int 2)) = .ok (.im c)) (i3 : ixR (.ok (.im x)) (.ok (.int 3)) = .ok (.im d))
    (sa : smp a = true) (sb : smp b = true) (sc : smp c = true) (sd : smp d = true) : m_is_dot_r2 [.im x] = .rt (.im (.bl (dotB a b c d))) := by
  have e0 : eIx (eVar 0) (eC (.int 0)) [.im x] = .ok (.im a) := i0
  have e1 : eIx (eVar 0) (eC (.int 1)) [.im x] = .ok (.im b) := i1
  have e2 : eIx (eVar 0) (eC (.int 2)) [.im x] = .ok (.im c) := i2
  have e3 : eIx (eVar 0) (eC (.int 3)) [.im x] = .ok (.im d) := i3
  have n0 := near_s sa
  have n1 := near_s sb
  have w2 := whole_s sc
  have w3 := whole_s sd
  have fin : wB c = true → wB d = true → m_is_dot_r1 [.im x] = .rt (.im (.bl (cB c && hB d))) := fun h1 h2 => by
    obtain ⟨i, rfl⟩ := wB_int h1
    obtain ⟨j, rfl⟩ := wB_int h2
    exact dot_r1 i2 i3
  unfold m_is_dot_r2 dotB
  generalize m_is_dot_r1 = mr at fin ⊢
  generalize eIx (eVar 0) (eC (.int 0)) = m0 at e0 ⊢
  generalize eIx (eVar 0) (eC (.int 1)) = m1 at e1 ⊢
  generalize eIx (eVar 0) (eC (.int 2)) = m2 at e2 ⊢
  generalize eIx (eVar 0) (eC (.int 3)) = m3 at e3 ⊢
  generalize m_is_near = mn at n0 n1 ⊢
  generalize m_is_whole = mw at w2 w3 ⊢
  generalize nB a = N0 at *
  generalize nB b = N1 at *
  generalize wB c = W2 at *
  generalize wB d = W3 at *
  walk_at "ev"
  rw [e0]
  walk_at "ev"
  rw [n0]
  cases N0
  · walk_at "ev"
    all_goals rfl
  · walk_at "ev"
    rw [e1]
    walk_at "ev"
    rw [n1]
    cases N1
    · walk_at "ev"
      all_goals rfl
    · walk_at "ev"
      rw [e2]
      walk_at "ev"
      rw [w2]
      cases W2
      · walk_at "ev"
        all_goals rfl
      · walk_at "ev"
        rw [e3]
        walk_at "ev"
        rw [w3]
        cases W3
        · walk_at "ev"
          all_goals rfl
        · walk_at "ev"
          rw [fin rfl rfl]
          all_goals rfl
theorem is_dot_4 {k : Bool} {a b c d : D} (sa : smp a = true) (sb : smp b = true) (sc : smp c = true) (sd : smp d = true) : m_is_dot [sqD k [a, b, c, d]] = .ok (.im (.bl (dotB a b c d))) := by
  cases k
  · have r := dot_r2 (x := .tup [a, b, c, d]) rfl rfl rfl rfl sa sb sc sd
    show m_is_dot [.tup [a, b, c, d]] = _
    unfold m_is_dot
    generalize m_is_dot_r2 = mr at r ⊢
    walk_at "ev"
    rw [r]
    rfl
  · have r := dot_r2 (x := .lst [a, b, c, d]) rfl rfl rfl rfl sa sb sc sd
    show m_is_dot [.lst [a, b, c, d]] = _
    unfold m_is_dot
    generalize m_is_dot_r2 = mr at r ⊢
    walk_at "ev"
    rw [r]
    rfl
theorem is_dot_len {k : Bool} {l : List D} (h : l.length ≠ 4) : m_is_dot [sqD k l] = .ok (.im (.bl false)) := by
  have h' : ¬ ((l.length : Int) = 4) := by omega
  cases k
  · show m_is_dot [.tup l] = _
    unfold m_is_dot
    generalize m_is_dot_r2 = mr
    walk_at "ev"
    rw [if_pos h']
    walk_at "ev"
  · show m_is_dot [.lst l] = _
    unfold m_is_dot
    generalize m_is_dot_r2 = mr
    walk_at "ev"
    rw [if_pos h']
    walk_at "ev"
theorem is_dot_no {d : D} (h : isiTR ["list", "tuple"] (.ok d) = .ok (.im (.bl false))) : m_is_dot [d] = .ok (.im (.bl false)) := by
  have e : eIsiT (eVar 0) ["list", "tuple"] [.im d] = .ok (.im (.bl false)) := h
  unfold m_is_dot
  generalize m_is_dot_r2 = mr
  generalize eIsiT (eVar 0) ["list", "tuple"] = m at e ⊢
  walk_at "ev"
  rw [e]
  walk_at "ev"
theorem isit_s : ∀ {d : D}, smp d = true → isiTR ["list", "tuple"] (.ok d) = .ok (.im (.bl false))
  | .at (.int z), _ => rfl
  | .at (.bl b), _ => rfl
  | .at .non, _ => rfl
  | .at (.str s), _ => rfl
theorem isit_d : isiTR ["list", "tuple"] (.ok .dct) = .ok (.im (.bl false)) := rfl

/-! ### k11: made_dots, refused -/
def tupD : D → D
  | .lst l => .tup l
  | d => d
def seqB : D → Bool
  | .lst l => decide (l.length ≤ 1000)
  | .tup _ => true
  | _ => false
theorem made_loop {ds : List D} {f : D → Bool} {x : Sl} (hf : ∀ d ∈ ds, m_is_dot [d] = .ok (.im (.bl (f d)))) : (ds.all f = true ∧ ∃ a, forN (gName 1) m_made_dots_b1 ds [x, .no] = .nx [x, a] ∧ freeB a = true) ∨ (ds.all f = false ∧ ∃ E, forN (gName 1) m_made_dots_b1 ds [x, .no] = .er "NoDots" E) := by
  have r := forN_stop (enc := fun d : D => d) (g := gName 1) (f := m_made_dots_b1) (fun E => ∃ a, E = [x, a] ∧ freeB a = true) f (fun o => ∃ E, o = .er "NoDots" E) (fun o k ⟨E, e⟩ => by rw [e]; rfl) ds [x, .no]
    (fun E d hd ⟨a, e, fa⟩ => by
      subst e
      refine ⟨_, rfl, ?_⟩
      have h := hf d hd
      unfold m_made_dots_b1
      generalize m_is_dot = md at h ⊢
      generalize f d = b at *
      walk_at "sets"
      walk_at "ev"
      rw [h]
      cases b
      · walk_at "ev"
        exact .inr ⟨by first | rfl | trivial, _, rfl⟩
      · walk_at "ev"
        exact .inl ⟨by first | rfl | trivial, _, .inl rfl, _, rfl, rfl⟩) ⟨_, rfl, rfl⟩
  rw [List.map_id'] at r
  rcases r with ⟨r1, E, r2, a, r3, r4⟩ | ⟨r1, E, r2⟩
  · exact .inl ⟨r1, a, by rw [r2, r3], r4⟩
  · exact .inr ⟨r1, E, r2⟩
theorem made_bad {ds : List D} {f : D → Bool} (hf : ∀ d ∈ ds, m_is_dot [d] = .ok (.im (.bl (f d)))) (hb : ds.all f = false) : m_made_dots [.lst ds] = .er "NoDots" := by
  rcases made_loop (x := .im (.lst ds)) hf with ⟨r, _⟩ | ⟨r, E, e⟩
  · rw [r] at hb; cases hb
  · unfold m_made_dots m_made_dots_r1
    generalize m_made_dots_b1 = mb at e ⊢
    by_cases c : (30 : Int) < ds.length
    · walk_at "ev"
      rw [if_pos c]
    · walk_at "ev"
      rw [if_neg c]
      walk_at "ev"
      rw [e]
      walk_at "ev"
theorem made_many {ds : List D} (h : 30 < ds.length) : m_made_dots [.lst ds] = .er "NoDots" := by
  have c : (30 : Int) < ds.length := by omega
  unfold m_made_dots
  generalize m_made_dots_r1 = mb
  walk_at "ev"
  rw [if_pos c]
theorem made_no {d : D} (h : isiR "list" (.ok d) = .ok (.im (.bl false))) : m_made_dots [d] = .er "NoDots" := by
  have e : eIsi (eVar 0) "list" [.im d, .no] = .ok (.im (.bl false)) := h
  unfold m_made_dots
  generalize m_made_dots_r1 = mb
  generalize eIsi (eVar 0) "list" = m at e ⊢
  walk_at "ev"
  rw [e]
  walk_at "ev"
theorem made_good {ds : List D} {f : D → Bool} (hf : ∀ d ∈ ds, m_is_dot [d] = .ok (.im (.bl (f d)))) (hg : ds.all f = true) (hl : ds.length ≤ 30) (hs : ∀ d ∈ ds, seqB d = true) : m_made_dots [.lst ds] = .ok (.fr (ds.map tupD)) := by
  rcases made_loop (x := .im (.lst ds)) hf with ⟨_, a, e, fa⟩ | ⟨r, _⟩
  · have lc : lcN (lc1 (gName 1) tTrue (eTuple (eVar 1)) [.im (.lst ds), .no]) ds = .ok (ds.map tupD) := by
      have := lcN_all (enc := fun d : D => d) (h := lc1 (gName 1) tTrue (eTuple (eVar 1)) [.im (.lst ds), .no]) (v := tupD) (xs := ds) fun d hd => by
        have := hs d hd
        unfold seqB at this
        split at this
        · rename_i l
          rw [decide_eq_true_eq] at this
          walk_at "ev"
          rfl
        · walk_at "ev"
          rfl
        · cases this
      rwa [List.map_id'] at this
    have c : ¬ (30 : Int) < ds.length := by omega
    unfold m_made_dots m_made_dots_r1
    generalize m_made_dots_b1 = mb at e ⊢
    walk_at "ev"
    rw [if_neg c]
    walk_at "ev"
    rw [e]
    walk_at "ev"
    rw [fa]
    walk_at "ev"
    rw [lc]
    walk_at "ev"
  · rw [r] at hg; cases hg
theorem isx_ok {x n : Str} {L : List (Str × Bool)} {b : Bool} (h : L.lookup n = some b) : isxR x L (.ok (.exc n)) = .ok (.im (.bl b)) := by
  unfold isxR
  dsimp only
  rw [h]
theorem refused_ok {d : D} (h : m_made_dots [d] = .er "NoDots") : m_law_refused [d] = .ok (.im (.bl true)) := by
  have e1 := isx_ok (x := "NoMap") (n := "NoDots") (L := [("NoDots", false)]) (b := false) (by kernel_rfl)
  have e2 := isx_ok (x := "TooMany") (n := "NoDots") (L := [("NoDots", false)]) (b := false) (by kernel_rfl)
  have e3 := isx_ok (x := "NoPlace") (n := "NoDots") (L := [("NoDots", false)]) (b := false) (by kernel_rfl)
  have e4 := isx_ok (x := "NoDots") (n := "NoDots") (L := [("NoDots", true)]) (b := true) (by kernel_rfl)
  have e5 := isx_ok (x := "ValueError") (n := "NoDots") (L := [("NoDots", true)]) (b := true) (by kernel_rfl)
  have en : (D.exc "NoDots").isNon = false := rfl
  have r1 : m_law_refused_r1 [.im d, .im (.exc "NoDots"), .no] = .rt (.im (.bl true)) := by
    unfold m_law_refused_r1
    walk_at "ev"
    rw [e1]
    walk_at "ev"
    rw [e2]
    walk_at "ev"
    rw [e3]
    walk_at "ev"
  have r2 : m_law_refused_r2 [.im d, .im (.exc "NoDots"), .no] = .rt (.im (.bl true)) := by
    unfold m_law_refused_r2
    generalize m_law_refused_r1 = mr at r1 ⊢
    walk_at "ev"
    rw [en]
    walk_at "ev"
    rw [e4]
    walk_at "ev"
    rw [e5]
    walk_at "ev"
    rw [r1]
  have dr : (sq (sDrop (eCall m_made_dots (aCons (eVar 0) aNil))) .nx) [.im d, .im .non, .no] = .er "NoDots" [.im d, .im .non, .no] := by
    generalize m_made_dots = md at h ⊢
    walk_at "ev"
    rw [h]
    walk_at "ev"
  have tr : sTry 2 ["NoDots"] (sq (sDrop (eCall m_made_dots (aCons (eVar 0) aNil))) .nx) (sq (sSet 1 (eVar 2)) .nx) [.im d, .im .non, .no] = .nx [.im d, .im (.exc "NoDots"), .no] := by
    unfold sTry
    rw [dr]
    exact try_nx (E' := [.im d, .im (.exc "NoDots"), .im (.exc "NoDots")]) (by kernel_rfl) rfl
  unfold m_law_refused
  generalize m_law_refused_r2 = mr at r2 ⊢
  generalize sTry 2 ["NoDots"] (sq (sDrop (eCall m_made_dots (aCons (eVar 0) aNil))) .nx) (sq (sSet 1 (eVar 2)) .nx) = st at tr ⊢
  walk_at "ev"
  rw [tr]
  walk_at "ev"
  rw [r2]
  rfl

/-! ### k11: rows -/
/-- a row: a list or a tuple of four -/
abbrev Row := Bool × P4
def l4 (q : P4) : List D := [.int q.1, .int q.2.1, .int q.2.2.1, .int q.2.2.2]
def rD (r : Row) : D := sqD r.1 (l4 r.2)
theorem pow9 : (10 : Int) ^ (9 : Int).toNat = 1000000000 := by decide +kernel
theorem far_ok {n : Int} (h : 0 ≤ n ∧ n < 1000000000) : ∃ x, m_law_far [.int n] = .ok (.im (.int x)) ∧ -1000000000000 < x ∧ x < 1000000000000 := by
  have p12 := pow12
  have sn : Sz 40 n := .of_lt 1000000000 (by omega) (by decide)
  unfold m_law_far m_law_far_i1 m_law_far_r1
  walk_at "ev"
  by_cases c1 : n % 3 = 0
  · rw [if_pos c1]
    exact ⟨_, rfl, by omega, by omega⟩
  rw [if_neg c1]
  by_cases c2 : n % 9 = 1
  · rw [if_pos c2]
    walk_at "ev"
    rcases (show n / 9 % 2 = 0 ∨ n / 9 % 2 = 1 by omega) with e | e <;> rw [e] <;> walk_at "ev"
    · exact ⟨_, rfl, by omega, by omega⟩
    · exact ⟨_, rfl, by omega, by omega⟩
  · rw [if_neg c2]
    walk_at "ev"
    (try rw [pow12])
    walk_at "ev"
    exact ⟨_, rfl, by omega, by omega⟩
theorem heavy_ok {n : Int} (h : 0 ≤ n ∧ n < 1000000000) : ∃ x, m_law_heavy [.int n] = .ok (.im (.int x)) ∧ 1 ≤ x ∧ x < 1000000000 := by
  have p9 := pow9
  have sn : Sz 40 n := .of_lt 1000000000 (by omega) (by decide)
  unfold m_law_heavy m_law_heavy_r2 m_law_heavy_r1
  walk_at "ev"
  by_cases c1 : n % 3 = 0
  · rw [if_pos c1]
    exact ⟨_, rfl, by omega, by omega⟩
  rw [if_neg c1]
  by_cases c2 : n % 9 = 1
  · rw [if_pos c2]
    walk_at "ev"
    exact ⟨_, rfl, by omega, by omega⟩
  · rw [if_neg c2]
    walk_at "ev"
    (try rw [pow9])
    walk_at "ev"
    exact ⟨_, rfl, by omega, by omega⟩
theorem row_ok (c : Int) : ∃ r : Row, m_law_row [.int c] = .ok (.im (rD r)) ∧ Dot r.2 := by
  obtain ⟨xs, ex, lx, hb⟩ := stream_ok (c := c) (many := 5) (by decide)
  match xs, lx with
  | [u, v, w, x, y], _ =>
    obtain ⟨a, ea, ha⟩ := far_ok (hb u (by simp))
    obtain ⟨b, eb, hb'⟩ := far_ok (hb v (by simp))
    obtain ⟨d, ed, hd⟩ := heavy_ok (hb x (by simp))
    have hw := hb w (by simp)
    have hy := hb y (by simp)
    clear hb
    by_cases k : y % 2 = 1
    · refine ⟨(false, a, b, w % 3, d), ?_, ha, hb', by show 0 ≤ w % 3 ∧ w % 3 < 3; omega, hd⟩
      show _ = R.ok (Ret.im (.tup [.int a, .int b, .int (w % 3), .int d]))
      unfold m_law_row
      generalize m_law_stream = ms at ex ⊢
      generalize m_law_far = mf at ea eb ⊢
      generalize m_law_heavy = mh at ed ⊢
      walk_at "ev"
      rw [ex]
      walk_at "ev"
      rw [ea]
      walk_at "ev"
      rw [eb]
      walk_at "ev"
      rw [ed]
      walk_at "ev"
      rw [if_pos k]
      walk_at "ev"
    · refine ⟨(true, a, b, w % 3, d), ?_, ha, hb', by show 0 ≤ w % 3 ∧ w % 3 < 3; omega, hd⟩
      show _ = R.ok (Ret.im (.lst [.int a, .int b, .int (w % 3), .int d]))
      unfold m_law_row
      generalize m_law_stream = ms at ex ⊢
      generalize m_law_far = mf at ea eb ⊢
      generalize m_law_heavy = mh at ed ⊢
      walk_at "ev"
      rw [ex]
      walk_at "ev"
      rw [ea]
      walk_at "ev"
      rw [eb]
      walk_at "ev"
      rw [ed]
      walk_at "ev"
      rw [if_neg k]
      walk_at "ev"
/-- is it a dot: any data that comes here -/
def fB : D → Bool
  | .lst [a, b, c, d] => dotB a b c d
  | .tup [a, b, c, d] => dotB a b c d
  | _ => false
theorem dot_row (r : Row) : m_is_dot [rD r] = .ok (.im (.bl (fB (rD r)))) := by
  obtain ⟨b, q⟩ := r
  have := is_dot_4 (k := b) (a := .int q.1) (b := .int q.2.1) (c := .int q.2.2.1) (d := .int q.2.2.2) rfl rfl rfl rfl
  cases b <;> exact this
theorem good_row {r : Row} (h : Dot r.2) : fB (rD r) = true := by
  obtain ⟨b, x, y, c, w⟩ := r
  obtain ⟨h1, h2, h3, h4⟩ := h
  have e1 : nearZ x = true := nearZ_iff.2 h1
  have e2 : nearZ y = true := nearZ_iff.2 h2
  dsimp only at h3 h4
  have e3 : (decide (0 ≤ c) && decide (c ≤ 2)) = true := by rw [decide_eq_true h3.1, decide_eq_true (by omega)]; rfl
  have e4 : (decide (1 ≤ w) && decide (w < 1000000000)) = true := by rw [decide_eq_true h4.1, decide_eq_true h4.2]; rfl
  have : dotB (.int x) (.int y) (.int c) (.int w) = true := by
    show (nearZ x && (nearZ y && (true && (true && ((decide (0 ≤ c) && decide (c ≤ 2)) && (decide (1 ≤ w) && decide (w < 1000000000))))))) = true
    rw [e1, e2, e3, e4]
    rfl
  cases b <;> exact this
/-! what makes no row -/
structure BadD (d : D) : Prop where
  e : m_is_dot [d] = .ok (.im (.bl false))
theorem bad_4 {k : Bool} {a b c d : D} (sa : smp a = true) (sb : smp b = true) (sc : smp c = true) (sd : smp d = true) (h : dotB a b c d = false) : BadD (sqD k [a, b, c, d]) := ⟨by rw [is_dot_4 sa sb sc sd, h]⟩
theorem bad_len {k : Bool} {l : List D} (h : l.length ≠ 4) : BadD (sqD k l) := ⟨is_dot_len h⟩
theorem bad_s {d : D} (h : smp d = true) : BadD d := ⟨is_dot_no (isit_s h)⟩
theorem and_f (a : Bool) : (a && false) = false := by cases a <;> rfl
theorem pick_all {l : List D} {p : D → Prop} (h : ∀ d ∈ l, p d) {k : Int} (h0 : 0 ≤ k) (h1 : k < l.length) : ∃ d, atR l k = .ok (.im d) ∧ p d := by
  have hk : k.toNat < l.length := by omega
  refine ⟨l[k.toNat], ?_, h _ (List.getElem_mem hk)⟩
  have r := atR_ok (atI_nat (List.getElem?_eq_getElem hk))
  rwa [show ((k.toNat : Nat) : Int) = k by omega] at r
theorem bad_ok {r : Row} (h : Dot r.2) (n : Int) : ∃ d, m_law_bad [.int n, rD r] = .ok (.im d) ∧ BadD d := by
  obtain ⟨kb, x, y, c, w⟩ := r
  obtain ⟨h1, h2, h3, h4⟩ := h
  dsimp only at h1 h2 h3 h4
  have p12 := pow12
  have p9 := pow9
  obtain ⟨d, e, p⟩ := pick_all (l := [.lst [.int x, .int y, .int c], .lst [.int x, .int y, .int c, .int w, .int 0], .lst [], .non, .int 4, .str "0,0a", .tup [.int 1000000000000, .int y, .int c, .int w], .tup [.int x, .int (-1000000000000), .int c, .int w],
      .lst [.int x, .int y, .int 3, .int w], .tup [.int x, .int y, .int (-1), .int w], .lst [.int x, .int y, .int c, .int 0], .tup [.int x, .int y, .int c, .int (-1)], .lst [.int x, .int y, .int c, .int 1000000000], .tup [.bl true, .int y, .int c, .int w], .lst [.int x, .non, .int c, .int w],
      .tup [.int x, .int y, .bl false, .int w], .tup [.int x, .int y, .int c, .bl true], .lst [.str "1", .int y, .int c, .int w], .tup [.int x, .int y, .str "a", .int w], .tup [.int x, .int y, .non, .int w], .dct, .dct]) (p := BadD) (k := n % 22) (fun d hd => by
    simp only [List.mem_cons, List.not_mem_nil, or_false] at hd
    have f1 : nearZ (1000000000000 : Int) = false := nearZ_no.2 (by omega)
    have f2 : nearZ (-1000000000000 : Int) = false := nearZ_no.2 (by omega)
    rcases hd with rfl | rfl | rfl | rfl | rfl | rfl | rfl | rfl | rfl | rfl | rfl | rfl | rfl | rfl | rfl | rfl | rfl | rfl | rfl | rfl | rfl | rfl
    · exact bad_len (k := true) (by show 3 ≠ 4; decide)
    · exact bad_len (k := true) (by show 5 ≠ 4; decide)
    · exact bad_len (k := true) (by show 0 ≠ 4; decide)
    · exact bad_s rfl
    · exact bad_s rfl
    · exact bad_s rfl
    · exact bad_4 (k := false) rfl rfl rfl rfl (by show (nearZ 1000000000000 && _) = false; rw [f1]; rfl)
    · exact bad_4 (k := false) rfl rfl rfl rfl (by show (_ && (nearZ (-1000000000000) && _)) = false; rw [f2, Bool.false_and, and_f])
    · exact bad_4 (k := true) rfl rfl rfl rfl (by show (_ && (_ && (true && (true && ((decide ((0 : Int) ≤ 3) && decide ((3 : Int) ≤ 2)) && _))))) = false; rw [show (decide ((0 : Int) ≤ 3) && decide ((3 : Int) ≤ 2)) = false from rfl, Bool.false_and, and_f, and_f, and_f, and_f])
    · exact bad_4 (k := false) rfl rfl rfl rfl (by show (_ && (_ && (true && (true && ((decide ((0 : Int) ≤ -1) && decide ((-1 : Int) ≤ 2)) && _))))) = false; rw [show (decide ((0 : Int) ≤ -1) && decide ((-1 : Int) ≤ 2)) = false from rfl, Bool.false_and, and_f, and_f, and_f, and_f])
    · exact bad_4 (k := true) rfl rfl rfl rfl (by show (_ && (_ && (true && (true && (_ && (decide ((1 : Int) ≤ 0) && decide ((0 : Int) < 1000000000))))))) = false; rw [show (decide ((1 : Int) ≤ 0) && decide ((0 : Int) < 1000000000)) = false from rfl, and_f, and_f, and_f, and_f, and_f])
    · exact bad_4 (k := false) rfl rfl rfl rfl (by show (_ && (_ && (true && (true && (_ && (decide ((1 : Int) ≤ -1) && decide ((-1 : Int) < 1000000000))))))) = false; rw [show (decide ((1 : Int) ≤ -1) && decide ((-1 : Int) < 1000000000)) = false from rfl, and_f, and_f, and_f, and_f, and_f])
    · exact bad_4 (k := true) rfl rfl rfl rfl (by show (_ && (_ && (true && (true && (_ && (decide ((1 : Int) ≤ 1000000000) && decide ((1000000000 : Int) < 1000000000))))))) = false; rw [show (decide ((1 : Int) ≤ 1000000000) && decide ((1000000000 : Int) < 1000000000)) = false from by decide +kernel, and_f, and_f, and_f, and_f, and_f])
    · exact bad_4 (k := false) rfl rfl rfl rfl rfl
    · exact bad_4 (k := true) rfl rfl rfl rfl (by show (_ && (false && _)) = false; rw [Bool.false_and, and_f])
    · exact bad_4 (k := false) rfl rfl rfl rfl (by show (_ && (_ && (false && _))) = false; rw [Bool.false_and, and_f, and_f])
    · exact bad_4 (k := false) rfl rfl rfl rfl (by show (_ && (_ && (true && (false && _)))) = false; rw [Bool.false_and, and_f, and_f, and_f])
    · exact bad_4 (k := true) rfl rfl rfl rfl rfl
    · exact bad_4 (k := false) rfl rfl rfl rfl (by show (_ && (_ && (false && _))) = false; rw [Bool.false_and, and_f, and_f])
    · exact bad_4 (k := false) rfl rfl rfl rfl (by show (_ && (_ && (false && _))) = false; rw [Bool.false_and, and_f, and_f])
    · exact ⟨is_dot_no isit_d⟩
    · exact ⟨is_dot_no isit_d⟩) (by omega) (by show n % 22 < ((22 : Nat) : Int); omega)
  refine ⟨d, ?_, p⟩
  have go : ∀ z : D, z = .tup [.int x, .int y, .int c, .int w] ∨ z = .lst [.int x, .int y, .int c, .int w] → m_law_bad [.int n, z] = .ok (.im d) := by
    intro z hz
    unfold m_law_bad
    rcases hz with rfl | rfl
    · walk_at "ev"
      (try rw [p12, p9])
      walk_at "ev"
      rw [e]
      walk_at "ev"
    · walk_at "ev"
      (try rw [p12, p9])
      walk_at "ev"
      rw [e]
      walk_at "ev"
  cases kb
  · exact go _ (.inl rfl)
  · exact go _ (.inr rfl)

/-! ### k11: good, copies, marks -/
theorem whole_i (i : Int) : m_law_whole [.int i] = .ok (.im (.bl true)) := by
  unfold m_law_whole
  walk_at "ev"
def tqR (r : Row) : D := .tup (l4 r.2)
theorem tqR_tup (r : Row) : tupD (rD r) = tqR r := by
  obtain ⟨b, q⟩ := r
  cases b <;> rfl
theorem zip_l4 (q : P4) : zipD (l4 q) (l4 q) = [q.1, q.2.1, q.2.2.1, q.2.2.2].map fun z : Int => D.tup [.int z, .int z] := rfl
theorem good_two {s0 s1 s2 s3 : Sl} {z : Int} : m_law_good_b2 [s0, s1, s2, s3, .im (.int z), .im (.int z)] = .nx [s0, s1, s2, s3, .im (.int z), .im (.int z)] := by
  have hw := whole_i z
  unfold m_law_good_b2
  generalize m_law_whole = mw at hw ⊢
  walk_at "ev"
  rw [hw]
  walk_at "ev"
  try rw [if_neg (fun h => h rfl)]
theorem good_one {s0 s1 a4 a5 : Sl} {r : Row} : ∃ s4 s5, m_law_good_b1 [s0, s1, .im (tqR r), .im (rD r), a4, a5] = .nx [s0, s1, .im (tqR r), .im (rD r), s4, s5] := by
  obtain ⟨b, q⟩ := r
  obtain ⟨E, k1, x4, x5, k2⟩ := forN_inv (enc := fun z : Int => D.tup [.int z, .int z]) (g := gTup (gCons (gName 4) (gCons (gName 5) gNil))) (f := m_law_good_b2) (fun i E => ∃ s4 s5, E = [s0, s1, .im (tqR (b, q)), .im (rD (b, q)), s4, s5]) [q.1, q.2.1, q.2.2.1, q.2.2.2] 0 [s0, s1, .im (tqR (b, q)), .im (rD (b, q)), a4, a5]
    (fun i E x hx ⟨s4, s5, e⟩ => by
      subst e
      refine ⟨_, rfl, ?_⟩
      walk_at "sets"
      rw [good_two]
      exact ⟨_, .inl rfl, _, _, rfl⟩) ⟨_, _, rfl⟩
  rw [← zip_l4] at k1
  refine ⟨x4, x5, ?_⟩
  unfold m_law_good_b1
  generalize m_law_good_b2 = mb at k1 ⊢
  subst k2
  have e4 : ((l4 q).length : Int) = 4 := rfl
  cases b
  · show _ = O.nx [s0, s1, .im (.tup (l4 q)), .im (.tup (l4 q)), x4, x5]
    replace k1 : forN (gTup (gCons (gName 4) (gCons (gName 5) gNil))) mb (zipD (l4 q) (l4 q)) [s0, s1, .im (.tup (l4 q)), .im (.tup (l4 q)), a4, a5] = .nx [s0, s1, .im (.tup (l4 q)), .im (.tup (l4 q)), x4, x5] := k1
    show (sq _ _) [s0, s1, .im (.tup (l4 q)), .im (.tup (l4 q)), a4, a5] = _
    generalize l4 q = L at *
    walk_at "ev"
    rw [if_neg (by rw [e4]; exact fun h => h rfl)]
    walk_at "ev"
    rw [k1]
    walk_at "ev"
  · show _ = O.nx [s0, s1, .im (.tup (l4 q)), .im (.lst (l4 q)), x4, x5]
    replace k1 : forN (gTup (gCons (gName 4) (gCons (gName 5) gNil))) mb (zipD (l4 q) (l4 q)) [s0, s1, .im (.tup (l4 q)), .im (.lst (l4 q)), a4, a5] = .nx [s0, s1, .im (.tup (l4 q)), .im (.lst (l4 q)), x4, x5] := k1
    show (sq _ _) [s0, s1, .im (.tup (l4 q)), .im (.lst (l4 q)), a4, a5] = _
    generalize l4 q = L at *
    walk_at "ev"
    rw [if_neg (by rw [e4]; exact fun h => h rfl)]
    walk_at "ev"
    rw [k1]
    walk_at "ev"
theorem zip_rows : ∀ R : List Row, zipD (R.map tqR) (R.map rD) = R.map fun r => D.tup [tqR r, rD r]
  | [] => rfl
  | r :: R => by
    have := zip_rows R
    unfold zipD at this ⊢
    rw [List.map_cons, List.map_cons, List.zipWith_cons_cons, this, List.map_cons]
theorem good_ok {R : List Row} : m_law_good [.lst (R.map tqR), .lst (R.map rD)] = .ok (.im (.bl true)) := by
  obtain ⟨E, k1, x2, x3, x4, x5, k2⟩ := forN_inv (enc := fun r : Row => D.tup [tqR r, rD r]) (g := gTup (gCons (gName 2) (gCons (gName 3) gNil))) (f := m_law_good_b1) (fun i E => ∃ s2 s3 s4 s5, E = [.im (.lst (R.map tqR)), .im (.lst (R.map rD)), s2, s3, s4, s5]) R 0 [.im (.lst (R.map tqR)), .im (.lst (R.map rD)), .no, .no, .no, .no]
    (fun i E x hx ⟨s2, s3, s4, s5, e⟩ => by
      subst e
      obtain ⟨y4, y5, h⟩ := good_one (s0 := .im (.lst (R.map tqR))) (s1 := .im (.lst (R.map rD))) (a4 := s4) (a5 := s5) (r := x)
      exact ⟨_, rfl, _, .inl h, _, _, _, _, rfl⟩) ⟨_, _, _, _, rfl⟩
  rw [← zip_rows] at k1
  have l1 : (R.map tqR).length = R.length := List.length_map ..
  have l2 : (R.map rD).length = R.length := List.length_map ..
  unfold m_law_good m_law_good_r1
  generalize m_law_good_b1 = mb at k1 ⊢
  subst k2
  generalize R.map tqR = TL at *
  generalize R.map rD = RL at *
  walk_at "ev"
  rw [l1, l2]
  rw [if_neg (fun h => h rfl)]
  walk_at "ev"
  rw [k1]
  walk_at "ev"
theorem copy_ok (r : Row) : m_law_copy [rD r] = .ok (rD r) := by
  obtain ⟨b, q⟩ := r
  cases b
  · have t : tVal (eIsi (eVar 0) "list") [.im (.tup (l4 q))] = .ok false := by
      generalize l4 q = L
      walk_at "ev"
    show (match tVal (eIsi (eVar 0) "list") [.im (.tup (l4 q))] with | .ok true => xOf (eList (eVar 0)) [.im (.tup (l4 q))] | .ok false => xOf (eVar 0) [.im (.tup (l4 q))] | _ => .bad) = _
    rw [t]
    rfl
  · have t : tVal (eIsi (eVar 0) "list") [.im (.lst (l4 q))] = .ok true := by
      generalize l4 q = L
      walk_at "ev"
    have x : xOf (eList (eVar 0)) [.im (.lst (l4 q))] = .ok (.lst (l4 q)) := rfl
    show (match tVal (eIsi (eVar 0) "list") [.im (.lst (l4 q))] with | .ok true => xOf (eList (eVar 0)) [.im (.lst (l4 q))] | .ok false => xOf (eVar 0) [.im (.lst (l4 q))] | _ => .bad) = _
    rw [t]
    exact x
theorem copies_ok {v0 v1 v2 v3 v5 v6 v7 v8 v9 v10 v11 : Sl} {R : List Row} (hl : R.length ≤ 1000) (f5 : freeB v5 = true) : xLc [5] (gName 5) (iVal (eVar 4)) (xCallT m_law_copy (aCons (eVar 5) aNil)) [v0, v1, v2, v3, .im (.lst (R.map rD)), v5, v6, v7, v8, v9, v10, v11] = .ok (.lst (R.map rD)) := by
  have all : ∀ (E : Fr) (L : List Row), (∀ r, xlc1 (gName 5) (xCallT m_law_copy (aCons (eVar 5) aNil)) E (rD r) = .ok (rD r)) → xlcN (xlc1 (gName 5) (xCallT m_law_copy (aCons (eVar 5) aNil)) E) (L.map rD) = .ok (L.map rD) := by
    intro E L h
    induction L with
    | nil => rfl
    | cons r L ih => rw [List.map_cons, xlcN, h r, ih]; rfl
  have i4 : iVal (eVar 4) [v0, v1, v2, v3, .im (.lst (R.map rD)), v5, v6, v7, v8, v9, v10, v11] = .ok (R.map rD) := rfl
  have fr : freeS [v0, v1, v2, v3, .im (.lst (R.map rD)), v5, v6, v7, v8, v9, v10, v11] [5] = true := by
    unfold freeS
    clear i4 all
    cases v5 <;> first | rfl | cases f5
  unfold xLc
  rw [i4]
  dsimp only
  rw [if_pos ⟨fr, by rw [List.length_map, sizeLine_eq]; omega⟩, all _ R fun r => by
    show xCallT m_law_copy (aCons (eVar 5) aNil) [v0, v1, v2, v3, .im (.lst (R.map rD)), .im (rD r), v6, v7, v8, v9, v10, v11] = _
    show m_law_copy [rD r] = _
    exact copy_ok r]
theorem mk_ok {R : List Row} {k : Nat} (hk : k < 4) : (R.map rD).all (mkOk k) = true := by
  rw [List.all_map, List.all_eq_true]
  rintro ⟨b, q⟩ _
  cases b
  · rfl
  · show (true && decide (k < 4)) = true
    rw [decide_eq_true hk]
    rfl
theorem noLs_tqR : ∀ R : List Row, D.noLs (R.map tqR) = true
  | [] => rfl
  | r :: R => noLs_tqR R
theorem dot_mark (r : Row) {k : Nat} (hk : k < 4) : m_is_dot [markD k 7 (rD r)] = .ok (.im (.bl (fB (markD k 7 (rD r))))) := by
  obtain ⟨b, q⟩ := r
  cases b
  · exact dot_row (false, q)
  · match k, hk with
    | 0, _ => exact is_dot_4 (k := true) (a := .int 7) (b := .int q.2.1) (c := .int q.2.2.1) (d := .int q.2.2.2) rfl rfl rfl rfl
    | 1, _ => exact is_dot_4 (k := true) (a := .int q.1) (b := .int 7) (c := .int q.2.2.1) (d := .int q.2.2.2) rfl rfl rfl rfl
    | 2, _ => exact is_dot_4 (k := true) (a := .int q.1) (b := .int q.2.1) (c := .int 7) (d := .int q.2.2.2) rfl rfl rfl rfl
    | 3, _ => exact is_dot_4 (k := true) (a := .int q.1) (b := .int q.2.1) (c := .int q.2.2.1) (d := .int 7) rfl rfl rfl rfl
theorem made_rows {R : List Row} (h : ∀ r ∈ R, Dot r.2) (hl : R.length ≤ 30) : m_made_dots [.lst (R.map rD)] = .ok (.fr (R.map tqR)) := by
  have := made_good (ds := R.map rD) (f := fB) (fun d hd => by
    obtain ⟨r, _, rfl⟩ := List.mem_map.1 hd
    exact dot_row r) (by
    rw [List.all_map, List.all_eq_true]
    exact fun r hr => good_row (h r hr)) (by rw [List.length_map]; exact hl) fun d hd => by
    obtain ⟨⟨b, q⟩, _, rfl⟩ := List.mem_map.1 hd
    cases b <;> rfl
  rw [this, List.map_map]
  refine congrArg (fun l => DL.R.ok (Ret.fr l)) (List.map_congr_left fun r _ => tqR_tup r)
/-- rows that are no dots -/
theorem made_bad' {ds : List D} (h : ∀ d ∈ ds, ∃ b, m_is_dot [d] = .ok (.im (.bl b))) (hb : ∃ d ∈ ds, BadD d) : m_made_dots [.lst ds] = .er "NoDots" := by
  classical
  refine made_bad (f := fun d => decide (m_is_dot [d] = .ok (.im (.bl true)))) (fun d hd => ?_) ?_
  · obtain ⟨b, e⟩ := h d hd
    rw [e]
    cases b
    · rw [decide_eq_false (by intro z; cases z)]
    · rw [decide_eq_true rfl]
  · rw [List.all_eq_false]
    obtain ⟨d, hd, e⟩ := hb
    refine ⟨d, hd, ?_⟩
    rw [e.e, decide_eq_false (by intro z; cases z)]
    decide

theorem sSetX_at {E : Fr} {i : Nat} {xm : Fr → R D} {d : D} (h : xm E = .ok d) : sSetX i xm E = .nx (setS E i (.ot d)) := by unfold sSetX; rw [h]

/-! ### k11: the law -/
section
variable {v0 v1 v2 v3 v4 v5 v6 v7 v8 v9 v10 v11 : Sl}
theorem app_iL {x : Sl} : True := trivial
theorem s_mark {R : List Row} {f : Int} (hl : R.length ≤ 1000) : sMark 6 5 (eMod (eVar 1) (eC (.int 4))) 7 [v0, .im (.int f), v2, v3, v4, v5, .ot (.lst (R.map rD)), v7, v8, v9, v10, v11] = .nx [v0, .im (.int f), v2, v3, v4, .no, .ot (.lst ((R.map rD).map (markD (f % 4).toNat 7))), v7, v8, v9, v10, v11] := by
  have e : toD (eMod (eVar 1) (eC (.int 4)) [v0, .im (.int f), v2, v3, v4, .no, .no, v7, v8, v9, v10, v11]) = .ok (.int (f % 4)) := by
    walk_at "ev"
  have m := mk_ok (R := R) (k := (f % 4).toNat) (by omega)
  unfold sMark
  show (match toD (eMod (eVar 1) (eC (.int 4)) [v0, .im (.int f), v2, v3, v4, .no, .no, v7, v8, v9, v10, v11]) with
    | .ok (.at (.int k)) => if 0 ≤ k ∧ (R.map rD).all (mkOk k.toNat) = true ∧ (R.map rD).length ≤ 1000 ∧ 5 < 12 then O.nx [v0, .im (.int f), v2, v3, v4, .no, .ot (.lst ((R.map rD).map (markD k.toNat 7))), v7, v8, v9, v10, v11] else O.bad
    | _ => O.bad) = _
  rw [e]
  show (if 0 ≤ f % 4 ∧ (R.map rD).all (mkOk (f % 4).toNat) = true ∧ (R.map rD).length ≤ 1000 ∧ 5 < 12 then O.nx [v0, .im (.int f), v2, v3, v4, .no, .ot (.lst ((R.map rD).map (markD (f % 4).toNat 7))), v7, v8, v9, v10, v11] else O.bad) = _
  rw [if_pos ⟨by omega, m, by rw [List.length_map]; exact hl, by decide⟩]
theorem s_appR {L : List D} (hl : L.length ≤ 100000) : sAppR 6 (eC .non) [v0, v1, v2, v3, v4, v5, .ot (.lst L), v7, v8, v9, v10, v11] = .nx [v0, v1, v2, v3, v4, v5, .ot (.lst (L ++ [.non])), v7, v8, v9, v10, v11] := by
  show (if (D.non).noL = true ∧ L.length ≤ 100000 then O.nx _ else .bad) = _
  rw [if_pos ⟨rfl, hl⟩]
  rfl
theorem r1_ok {R : List Row} {T : List D} (h : ∀ r ∈ R, Dot r.2) (hl : R.length ≤ 30) (lT : T.length ≤ 1000) : m_law_r1 [v0, v1, v2, v3, .im (.lst (R.map rD)), v5, v6, .ow T, v8, v9, v10, v11] = .rt (.im (.bl true)) := by
  have m1 := made_rows h hl
  have m2 : m_made_dots [.lst []] = .ok (.fr []) := made_rows (R := []) (fun r hr => nomatch hr) (by decide)
  have g1 := good_ok (R := R)
  have g2 : m_law_good [.lst [], .lst []] = .ok (.im (.bl true)) := good_ok (R := [])
  unfold m_law_r1
  generalize m_made_dots = mm at m1 m2 ⊢
  generalize m_law_good = mg at g1 g2 ⊢
  generalize R.map rD = RL at *
  generalize R.map tqR = TL at *
  walk_at "ev"
  rw [m1]
  walk_at "ev"
  rw [g1]
  walk_at "ev"
  rw [m2]
  walk_at "ev"
  rw [g2]
  walk_at "ev"
theorem r2_ok {R : List Row} {T : List D} {f : Int} (h : ∀ r ∈ R, Dot r.2) (hl : R.length ≤ 29) (lT : T.length ≤ 1000) (f10 : freeB v10 = true) : m_law_r2 [v0, .im (.int f), v2, v3, .im (.lst (R.map rD)), v5, v6, .ow T, v8, v9, v10, v11] = .rt (.im (.bl true)) := by
  have r1 := fun x11 : Sl => r1_ok (v0 := v0) (v1 := .im (.int f)) (v2 := v2) (v3 := v3) (v5 := v5) (v6 := v6) (v8 := v8) (v9 := v9) (v10 := v10) (v11 := x11) h (by omega) lT
  obtain ⟨xs, ex, lx, _⟩ := stream_ok (c := f) (many := 31 - (R.length : Int) + f % 3) (by omega)
  obtain ⟨M, eM, lM, _⟩ := lcN_ex (enc := D.int) (h := lc1 (gName 10) tTrue (eCall m_law_row (aCons (eVar 10) aNil)) [v0, .im (.int f), v2, v3, .im (.lst (R.map rD)), v5, v6, .ow T, v8, v9, .no, v11]) (f := rD) (P := fun r => Dot r.2) (xs := xs) fun z hz => by
    obtain ⟨r, e, hr⟩ := row_ok z
    refine ⟨r, ?_, hr⟩
    generalize m_law_row = mr at e ⊢
    generalize R.map rD = RL
    walk_at "ev"
    rw [e]
    walk_at "ev"
  have mm := made_many (ds := R.map rD ++ M.map rD) (by rw [List.length_append, List.length_map, List.length_map]; omega)
  have rf := refused_ok mm
  have lR : (R.map rD).length = R.length := List.length_map ..
  have lMm : (M.map rD).length ≤ 100 := by rw [List.length_map]; omega
  have lR2 : (R.map rD).length ≤ 100 := by omega
  have lxs : (D.ints xs).length ≤ 100 := by show (xs.map D.int).length ≤ _; rw [List.length_map]; omega
  have eM' : lcN (lc1 (gName 10) tTrue (eCall m_law_row (aCons (eVar 10) aNil)) [v0, .im (.int f), v2, v3, .im (.lst (R.map rD)), v5, v6, .ow T, v8, v9, .no, v11]) (D.ints xs) = .ok (M.map rD) := eM
  unfold m_law_r2
  clear eM
  generalize m_law_r1 = mr at r1 ⊢
  generalize m_law_stream = ms at ex ⊢
  generalize m_law_refused = mrf at rf ⊢
  generalize eCall m_law_row (aCons (eVar 10) aNil) = er at eM' ⊢
  generalize R.map rD = RL at *
  generalize M.map rD = ML at *
  generalize D.ints xs = XL at *
  walk_at "ev"
  rw [lR]
  walk_at "ev"
  rw [ex]
  walk_at "ev"
  rw [f10]
  walk_at "ev"
  rw [eM']
  walk_at "ev"
  rw [rf]
  walk_at "ev"
  rw [r1]
theorem r3_ok {R : List Row} {T : List D} {f : Int} (h : ∀ r ∈ R, Dot r.2) (hl : R.length ≤ 29) (lT : T.length ≤ 1000) (f10 : freeB v10 = true) : m_law_r3 [v0, .im (.int f), v2, v3, .im (.lst (R.map rD)), v5, v6, .ow T, v8, v9, v10, v11] = .rt (.im (.bl true)) := by
  have r2 := r2_ok (v0 := v0) (v2 := v2) (v3 := v3) (v5 := v5) (v6 := v6) (v8 := v8) (v9 := v9) (v11 := v11) (f := f) h hl lT f10
  obtain ⟨d, e, p⟩ := pick_all (l := [.tup (R.map rD), .non, .int 0, .str "", .dct, .bl true]) (p := fun d => m_law_refused [d] = .ok (.im (.bl true))) (k := f / 21 % 6) (fun d hd => by
    simp only [List.mem_cons, List.not_mem_nil, or_false] at hd
    rcases hd with rfl | rfl | rfl | rfl | rfl | rfl <;> exact refused_ok (made_no rfl)) (by omega) (by show f / 21 % 6 < ((6 : Nat) : Int); omega)
  have lR2 : (R.map rD).length ≤ 100 := by rw [List.length_map]; omega
  unfold m_law_r3
  generalize m_law_r2 = mr at r2 ⊢
  generalize m_law_refused = mrf at p ⊢
  generalize R.map rD = RL at *
  walk_at "ev"
  rw [e]
  walk_at "ev"
  rw [p]
  walk_at "ev"
  rw [r2]
theorem r4_ok {R : List Row} {T : List D} {f : Int} (h : ∀ r ∈ R, Dot r.2) (hl : R.length ≤ 29) (lT : T.length ≤ 1000) (f10 : freeB v10 = true) : m_law_r4 [v0, .im (.int f), v2, v3, .im (.lst (R.map rD)), v5, v6, .ow T, v8, v9, v10, v11] = .rt (.im (.bl true)) := by
  obtain ⟨r, er, hr⟩ := row_ok f
  obtain ⟨bd, eb, hb⟩ := bad_ok hr (f / 7)
  obtain ⟨a, ea⟩ : ∃ a : Int, a = f / 154 % ((R.length : Int) + 1) := ⟨_, rfl⟩
  have r3 := r3_ok (v0 := v0) (v2 := v2) (v3 := v3) (v5 := v5) (v6 := v6) (v8 := .im bd) (v9 := .im (.int a)) (v11 := v11) (f := f) h hl lT f10
  have lR : (R.map rD).length = R.length := List.length_map ..
  have c1 := cut_len R none (some a)
  have c2 := cut_len R (some a) none
  have lA : ((cutL R none (some a)).map rD).length ≤ 100 := by rw [List.length_map]; omega
  have lB : ((cutL R (some a) none).map rD).length ≤ 100 := by rw [List.length_map]; omega
  have cA : cutD (R.map rD) none (some a) = (cutL R none (some a)).map rD := cut_map rD R _ _
  have cB : cutD (R.map rD) (some a) none = (cutL R (some a) none).map rD := cut_map rD R _ _
  have rf : m_law_refused [.lst ((cutL R none (some a)).map rD ++ bd :: (cutL R (some a) none).map rD)] = .ok (.im (.bl true)) := refused_ok (made_bad' (fun d hd => by
    rcases List.mem_append.1 hd with z | z
    · obtain ⟨r', _, rfl⟩ := List.mem_map.1 z
      exact ⟨_, dot_row r'⟩
    · rcases List.mem_cons.1 z with z | z
      · rw [z]; exact ⟨false, hb.e⟩
      · obtain ⟨r', _, rfl⟩ := List.mem_map.1 z
        exact ⟨_, dot_row r'⟩) ⟨bd, List.mem_append_right _ List.mem_cons_self, hb⟩)
  unfold m_law_r4
  generalize m_law_r3 = mr at r3 ⊢
  generalize m_law_refused = mrf at rf ⊢
  generalize m_law_row = mrw at er ⊢
  generalize m_law_bad = mbd at eb ⊢
  generalize (cutL R none (some a)).map rD = A at *
  generalize (cutL R (some a) none).map rD = B at *
  generalize R.map rD = RL at *
  generalize rD r = RD at *
  have lp : (0 : Int) < (R.length : Int) + 1 := by omega
  walk_at "ev"
  rw [er]
  walk_at "ev"
  rw [eb]
  walk_at "ev"
  rw [lR]
  walk_at "ev"
  rw [← ea]
  (try rw [cA, cB])
  walk_at "ev"
  rw [rf]
  walk_at "ev"
  rw [r3]
theorem r5_ok {R : List Row} {f : Int} (h : ∀ r ∈ R, Dot r.2) (hl : R.length ≤ 29) (f10 : freeB v10 = true) : m_law_r5 [v0, .im (.int f), v2, v3, .im (.lst (R.map rD)), v5, .ot (.lst ((R.map rD).map (markD (f % 4).toNat 7))), .ow (R.map tqR), v8, v9, v10, v11] = .rt (.im (.bl true)) := by
  have lm : ((R.map rD).map (markD (f % 4).toNat 7)).length ≤ 1000 := by rw [List.length_map, List.length_map]; omega
  have lt : (R.map tqR).length ≤ 1000 := by rw [List.length_map]; omega
  have ap := s_appR (v0 := v0) (v1 := .im (.int f)) (v2 := v2) (v3 := v3) (v4 := .im (.lst (R.map rD))) (v5 := v5) (v7 := .ow (R.map tqR)) (v8 := v8) (v9 := v9) (v10 := v10) (v11 := v11) (L := (R.map rD).map (markD (f % 4).toNat 7)) (by omega)
  have r4 := r4_ok (v0 := v0) (v2 := v2) (v3 := v3) (v5 := v5) (v6 := .im (.lst ((R.map rD).map (markD (f % 4).toNat 7) ++ [.non]))) (v8 := v8) (v9 := v9) (v11 := v11) (f := f) h hl lt f10
  have g := good_ok (R := R)
  have rf : m_law_refused [.lst ((R.map rD).map (markD (f % 4).toNat 7) ++ [.non])] = .ok (.im (.bl true)) := refused_ok (made_bad' (fun d hd => by
    rcases List.mem_append.1 hd with z | z
    · obtain ⟨d', z', rfl⟩ := List.mem_map.1 z
      obtain ⟨r', _, rfl⟩ := List.mem_map.1 z'
      exact ⟨_, dot_mark r' (by omega)⟩
    · rw [List.mem_singleton.1 z]
      exact ⟨false, (bad_s rfl).e⟩) ⟨.non, List.mem_append_right _ List.mem_cons_self, bad_s rfl⟩)
  have fz : frzs [v0, .im (.int f), v2, v3, .im (.lst (R.map rD)), v5, .ot (.lst ((R.map rD).map (markD (f % 4).toNat 7) ++ [.non])), .ow (R.map tqR), v8, v9, v10, v11] [6] = [v0, .im (.int f), v2, v3, .im (.lst (R.map rD)), v5, .im (.lst ((R.map rD).map (markD (f % 4).toNat 7) ++ [.non])), .ow (R.map tqR), v8, v9, v10, v11] := rfl
  unfold m_law_r5
  rw [ev_sq, ap, ev_then_nx]
  show (sq _ _) (frzs _ [6]) = _
  rw [fz]
  generalize m_law_r4 = mr at r4 ⊢
  generalize m_law_refused = mrf at rf ⊢
  generalize m_law_good = mg at g ⊢
  generalize (R.map rD).map (markD (f % 4).toNat 7) ++ [.non] = ML at *
  generalize R.map rD = RL at *
  generalize R.map tqR = TL at *
  walk_at "ev"
  rw [g]
  walk_at "ev"
  rw [rf]
  walk_at "ev"
  rw [r4]
end
theorem sim_rows : ∀ R : List Row, (D.lst (R.map rD)).sim = true
  | [] => rfl
  | r :: R => by
    have := sim_rows R
    have e : (rD r).sim = true := by
      obtain ⟨b, q⟩ := r
      cases b <;> rfl
    show ((rD r).sim && D.sims (R.map rD)) = true
    rw [e]
    exact this
theorem dep_rows : ∀ R : List Row, D.deps (R.map rD) ≤ 10
  | [] => by decide
  | r :: R => by
    have := dep_rows R
    have e : (rD r).dep ≤ 5 := by
      obtain ⟨b, q⟩ := r
      cases b <;> exact Nat.le_of_ble_eq_true rfl
    show max (rD r).dep (D.deps (R.map rD)) ≤ 10
    omega

/-! ### k11: the law's truth -/
section
variable {v0 v1 v2 v3 v4 v5 v6 v7 v8 v9 v10 v11 : Sl}
theorem noLs_tR (R : List Row) : D.noLs (R.map tqR) = true := noLs_tqR R
theorem s_made {R : List Row} (h : ∀ r ∈ R, Dot r.2) (hl : R.length ≤ 30) : sSetO 7 (bor 6 (eCall m_made_dots (aCons (eVar 6) aNil))) [v0, v1, v2, v3, v4, v5, .ot (.lst (R.map rD)), v7, v8, v9, v10, v11] = .nx [v0, v1, v2, v3, v4, v5, .ot (.lst (R.map rD)), .ow (R.map tqR), v8, v9, v10, v11] := by
  have m := made_rows h hl
  have n := noLs_tR R
  have b : bor 6 (eCall m_made_dots (aCons (eVar 6) aNil)) [v0, v1, v2, v3, v4, v5, .ot (.lst (R.map rD)), v7, v8, v9, v10, v11] = .ok (.fr (R.map tqR)) := by
    have e : eCall m_made_dots (aCons (eVar 6) aNil) [v0, v1, v2, v3, v4, v5, .im (.lst (R.map rD)), v7, v8, v9, v10, v11] = .ok (.fr (R.map tqR)) := by
      generalize m_made_dots = mm at m ⊢
      generalize R.map rD = RL at *
      generalize R.map tqR = TL at *
      walk_at "ev"
      rw [m]
      walk_at "ev"
    show borR (eCall m_made_dots (aCons (eVar 6) aNil) [v0, v1, v2, v3, v4, v5, .im (.lst (R.map rD)), v7, v8, v9, v10, v11]) = _
    rw [e]
    exact if_pos n
  rw [show sSetO 7 (bor 6 (eCall m_made_dots (aCons (eVar 6) aNil))) = sSetO 7 (bor 6 (eCall m_made_dots (aCons (eVar 6) aNil))) from rfl]
  generalize bor 6 (eCall m_made_dots (aCons (eVar 6) aNil)) = bb at b ⊢
  generalize R.map rD = RL at *
  generalize R.map tqR = TL at *
  have q := ev_seto (i := 7) (m := bb) (E := [v0, v1, v2, v3, v4, v5, .ot (.lst RL), v7, v8, v9, v10, v11])
  rw [q, b]
  walk_at "ev"
theorem s_test {R : List Row} (hl : R.length ≤ 1000) : borT 6 (tOr (tNot (tVal (eCallO m_law_good (lCons (eVar 7) (aCons (eVar 4) aNil))))) (cNe (eVar 6) (eVar 4))) [v0, v1, v2, v3, .im (.lst (R.map rD)), v5, .ot (.lst (R.map rD)), .ow (R.map tqR), v8, v9, v10, v11] = .ok false := by
  have g := good_ok (R := R)
  have e := eqD_sim (sim_rows R) (sim_rows R) (by show D.deps (R.map rD) + 1 ≤ 64; have := dep_rows R; omega) (by show D.deps (R.map rD) + 1 ≤ 64; have := dep_rows R; omega)
  rw [decide_eq_true rfl] at e
  show (tOr (tNot (tVal (eCallO m_law_good (lCons (eVar 7) (aCons (eVar 4) aNil))))) (cNe (eVar 6) (eVar 4))) [v0, v1, v2, v3, .im (.lst (R.map rD)), v5, .im (.lst (R.map rD)), .ow (R.map tqR), v8, v9, v10, v11] = _
  generalize m_law_good = mg at g ⊢
  generalize R.map rD = RL at *
  generalize R.map tqR = TL at *
  walk_at "ev"
  rw [g]
  walk_at "ev"
  rw [e]
  walk_at "ev"
end
theorem law_true (ns : List Int) (hl : ns.length ≤ 63) (hs : ∀ z ∈ ns, Sz 1048576 z) : m_law [.lst (D.ints ns)] = .ok (.im (.bl true)) := by
  have c0 := cell_at_ok (ns := ns) (k := 0) (by decide)
  have sf := cellZ_sz hs 0
  generalize cellZ ns 0 = f at c0 sf
  obtain ⟨xs, ex, lx, _⟩ := stream_ok (c := f) (many := f % 7) (by omega)
  obtain ⟨cs, hcs⟩ : ∃ cs : List Int, cs = cutL ns (some 1) (some 30) ++ xs := ⟨_, rfl⟩
  have lc := cut_len ns (some 1) (some 30)
  have lcs : cs.length ≤ 100 := by rw [hcs, List.length_append]; omega
  obtain ⟨R, eR, lR, hR⟩ := lcN_ex (enc := D.int) (h := lc1 (gName 3) tTrue (eCall m_law_row (aCons (eVar 3) aNil)) [.im (.lst (D.ints ns)), .im (.int f), .im (.lst (D.ints cs)), .no, .no, .no, .no, .no, .no, .no, .no, .no]) (f := rD) (P := fun r => Dot r.2) (xs := cutL cs none (some 29)) fun z hz => by
    obtain ⟨r, e, hr⟩ := row_ok z
    refine ⟨r, ?_, hr⟩
    generalize m_law_row = mr at e ⊢
    generalize D.ints ns = NL
    generalize D.ints cs = CL
    walk_at "ev"
    rw [e]
    walk_at "ev"
  have l29 : R.length ≤ 29 := by
    rw [lR]
    unfold cutL HT.sIx
    rw [List.length_take, List.length_drop]
    dsimp only
    rw [if_neg (by omega)]
    omega
  have hR' : ∀ r ∈ R, Dot r.2 := hR
  have cc : cutD (D.ints cs) none (some 29) = (cutL cs none (some 29)).map D.int := cut_map D.int cs _ _
  have cn : cutD (D.ints ns) (some 1) (some 30) = (cutL ns (some 1) (some 30)).map D.int := cut_map D.int ns _ _
  have app : (cutL ns (some 1) (some 30)).map D.int ++ D.ints xs = D.ints cs := by
    rw [hcs]
    show _ = (cutL ns (some 1) (some 30) ++ xs).map D.int
    rw [List.map_append]
  have lA : ((cutL ns (some 1) (some 30)).map D.int).length ≤ 100 := by rw [List.length_map]; omega
  have lX : (D.ints xs).length ≤ 100 := by show (xs.map D.int).length ≤ 100; rw [List.length_map]; omega
  have lCC : ((cutL cs none (some 29)).map D.int).length ≤ 100 := by
    have := cut_len cs none (some 29)
    rw [List.length_map]
    omega
  have eR' : lcN (lc1 (gName 3) tTrue (eCall m_law_row (aCons (eVar 3) aNil)) [.im (.lst (D.ints ns)), .im (.int f), .im (.lst (D.ints cs)), .no, .no, .no, .no, .no, .no, .no, .no, .no]) ((cutL cs none (some 29)).map D.int) = .ok (R.map rD) := eR
  have s1 := copies_ok (v0 := .im (.lst (D.ints ns))) (v1 := .im (.int f)) (v2 := .im (.lst (D.ints cs))) (v3 := .no) (v5 := .no) (v6 := .no) (v7 := .no) (v8 := .no) (v9 := .no) (v10 := .no) (v11 := .no) (R := R) (by omega) rfl
  have s2 := s_made (v0 := .im (.lst (D.ints ns))) (v1 := .im (.int f)) (v2 := .im (.lst (D.ints cs))) (v3 := .no) (v4 := .im (.lst (R.map rD))) (v5 := .no) (v7 := .no) (v8 := .no) (v9 := .no) (v10 := .no) (v11 := .no) hR' (by omega)
  have s3 := s_test (v0 := .im (.lst (D.ints ns))) (v1 := .im (.int f)) (v2 := .im (.lst (D.ints cs))) (v3 := .no) (v5 := .no) (v8 := .no) (v9 := .no) (v10 := .no) (v11 := .no) (R := R) (by omega)
  have s4 := s_mark (v0 := .im (.lst (D.ints ns))) (v2 := .im (.lst (D.ints cs))) (v3 := .no) (v4 := .im (.lst (R.map rD))) (v5 := .no) (v7 := .ow (R.map tqR)) (v8 := .no) (v9 := .no) (v10 := .no) (v11 := .no) (f := f) (R := R) (by omega)
  have s5 := r5_ok (v0 := .im (.lst (D.ints ns))) (v2 := .im (.lst (D.ints cs))) (v3 := .no) (v5 := .no) (v8 := .no) (v9 := .no) (v10 := .no) (v11 := .no) (f := f) hR' l29 rfl
  unfold m_law
  clear eR hR hR' hs sf hcs lcs
  generalize m_law_r5 = mr5 at s5 ⊢
  generalize sMark 6 5 (eMod (eVar 1) (eC (.int 4))) 7 = sm at s4 ⊢
  generalize borT 6 (tOr (tNot (tVal (eCallO m_law_good (lCons (eVar 7) (aCons (eVar 4) aNil))))) (cNe (eVar 6) (eVar 4))) = tt at s3 ⊢
  generalize sSetO 7 (bor 6 (eCall m_made_dots (aCons (eVar 6) aNil))) = so at s2 ⊢
  generalize xLc [5] (gName 5) (iVal (eVar 4)) (xCallT m_law_copy (aCons (eVar 5) aNil)) = xl at s1 ⊢
  generalize eCall m_law_row (aCons (eVar 3) aNil) = er at eR' ⊢
  generalize m_law_stream = ms at ex ⊢
  generalize m_law_cell_at = mc at c0 ⊢
  generalize (cutL cs none (some 29)).map D.int = CC at *
  generalize (cutL ns (some 1) (some 30)).map D.int = CN at *
  generalize D.ints cs = CL at *
  generalize D.ints ns = NL at *
  generalize D.ints xs = XL at *
  generalize (R.map rD).map (markD (f % 4).toNat 7) = ML at *
  generalize R.map rD = RL at *
  generalize R.map tqR = TL at *
  walk_at "ev"
  rw [c0]
  walk_at "ev"
  (try rw [cn])
  rw [ex]
  walk_at "ev"
  rw [app]
  walk_at "ev"
  (try rw [cc])
  walk_at "ev"
  rw [eR']
  walk_at "ev"
  rw [sSetX_at s1]
  walk_at "ev"
  rw [s2]
  walk_at "ev"
  rw [s3]
  walk_at "ev"
  rw [s4]
  walk_at "ev"
  rw [s5]
  rfl

end DL
set_option maxHeartbeats 4000000
namespace DL
open PySem PySem.Spec PyProof.Rows L2
/-- the statements of the top -/
def topS (i : Nat) : Stmt := PySem.Challenge.pw_halvecut_k11_dots_made.main.body.getD i (.Pass ⟨0, 0, 0, 0⟩)
abbrev s_is_whole : Stmt := topS 7
theorem sc_is_whole : FnScope ["thing"] ["thing"] (defScope s_is_whole) := ⟨rfl, rfl, rfl, by decide +kernel, rfl, by decide +kernel, by decide +kernel⟩
abbrev s_is_near : Stmt := topS 12
theorem sc_is_near : FnScope ["thing"] ["thing"] (defScope s_is_near) := ⟨rfl, rfl, rfl, by decide +kernel, rfl, by decide +kernel, by decide +kernel⟩
abbrev s_is_dot : Stmt := topS 13
theorem sc_is_dot : FnScope ["row"] ["row"] (defScope s_is_dot) := ⟨rfl, rfl, rfl, by decide +kernel, rfl, by decide +kernel, by decide +kernel⟩
abbrev s_made_dots : Stmt := topS 14
theorem sc_made_dots : FnScope ["rows", "row"] ["rows"] (defScope s_made_dots) := ⟨rfl, rfl, rfl, by decide +kernel, rfl, by decide +kernel, by decide +kernel⟩
abbrev s_law_whole : Stmt := topS 16
theorem sc_law_whole : FnScope ["_law_found"] ["_law_found"] (defScope s_law_whole) := ⟨rfl, rfl, rfl, by decide +kernel, rfl, by decide +kernel, by decide +kernel⟩
abbrev s_law_cell_at : Stmt := topS 17
theorem sc_law_cell_at : FnScope ["_law_script", "_law_k"] ["_law_script", "_law_k"] (defScope s_law_cell_at) := ⟨rfl, rfl, rfl, by decide +kernel, rfl, by decide +kernel, by decide +kernel⟩
abbrev s_law_stream : Stmt := topS 18
theorem sc_law_stream : FnScope ["_law_cell", "_law_many", "_law_found", "_law_number", "_law_k"] ["_law_cell", "_law_many"] (defScope s_law_stream) := ⟨rfl, rfl, rfl, by decide +kernel, rfl, by decide +kernel, by decide +kernel⟩
abbrev s_law_far : Stmt := topS 19
theorem sc_law_far : FnScope ["_law_number"] ["_law_number"] (defScope s_law_far) := ⟨rfl, rfl, rfl, by decide +kernel, rfl, by decide +kernel, by decide +kernel⟩
abbrev s_law_heavy : Stmt := topS 20
theorem sc_law_heavy : FnScope ["_law_number"] ["_law_number"] (defScope s_law_heavy) := ⟨rfl, rfl, rfl, by decide +kernel, rfl, by decide +kernel, by decide +kernel⟩
abbrev s_law_row : Stmt := topS 21
theorem sc_law_row : FnScope ["_law_cell", "_law_xs", "_law_row_here"] ["_law_cell"] (defScope s_law_row) := ⟨rfl, rfl, rfl, by decide +kernel, rfl, by decide +kernel, by decide +kernel⟩
abbrev s_law_bad : Stmt := topS 22
theorem sc_law_bad : FnScope ["_law_number", "_law_row_here", "_law_x", "_law_y", "_law_painted", "_law_weight", "_law_some"] ["_law_number", "_law_row_here"] (defScope s_law_bad) := ⟨rfl, rfl, rfl, by decide +kernel, rfl, by decide +kernel, by decide +kernel⟩
abbrev s_law_refused : Stmt := topS 23
theorem sc_law_refused : FnScope ["_law_rows", "_law_caught", "error"] ["_law_rows"] (defScope s_law_refused) := ⟨rfl, rfl, rfl, by decide +kernel, rfl, by decide +kernel, by decide +kernel⟩
abbrev s_law_good : Stmt := topS 24
theorem sc_law_good : FnScope ["_law_found", "_law_rows", "_law_dot", "_law_row_here", "_law_here", "_law_there"] ["_law_found", "_law_rows"] (defScope s_law_good) := ⟨rfl, rfl, rfl, by decide +kernel, rfl, by decide +kernel, by decide +kernel⟩
abbrev s_law_copy : Stmt := topS 25
theorem sc_law_copy : FnScope ["_law_row_here"] ["_law_row_here"] (defScope s_law_copy) := ⟨rfl, rfl, rfl, by decide +kernel, rfl, by decide +kernel, by decide +kernel⟩
abbrev s_law : Stmt := topS 26
theorem sc_law : FnScope ["_law_script", "_law_first", "_law_cells", "_law_cell", "_law_rows", "_law_row_here", "_law_handed", "_law_found", "_law_bad_here", "_law_at", "_law_number", "_law_many"] ["_law_script"] (defScope s_law) := ⟨rfl, rfl, rfl, by decide +kernel, rfl, by decide +kernel, by decide +kernel⟩
/-- what the top has written -/
structure Tx (K : PySem.W.Frag) (mg : Str → Option Value) : Prop where
  f_is_whole : At K mg "is_whole" s_is_whole ["thing"]
  f_is_near : At K mg "is_near" s_is_near ["thing"]
  f_is_dot : At K mg "is_dot" s_is_dot ["row"]
  f_made_dots : At K mg "made_dots" s_made_dots ["rows"]
  f_law_whole : At K mg "_law_whole" s_law_whole ["_law_found"]
  f_law_cell_at : At K mg "_law_cell_at" s_law_cell_at ["_law_script", "_law_k"]
  f_law_stream : At K mg "_law_stream" s_law_stream ["_law_cell", "_law_many"]
  f_law_far : At K mg "_law_far" s_law_far ["_law_number"]
  f_law_heavy : At K mg "_law_heavy" s_law_heavy ["_law_number"]
  f_law_row : At K mg "_law_row" s_law_row ["_law_cell"]
  f_law_bad : At K mg "_law_bad" s_law_bad ["_law_number", "_law_row_here"]
  f_law_refused : At K mg "_law_refused" s_law_refused ["_law_rows"]
  f_law_good : At K mg "_law_good" s_law_good ["_law_found", "_law_rows"]
  f_law_copy : At K mg "_law_copy" s_law_copy ["_law_row_here"]
  c_PlaneError : ∃ Cl, ExcT K mg "PlaneError" Cl
  c_NoPlace : ∃ Cl, ExcT K mg "NoPlace" Cl
  c_NoDots : ∃ Cl, ExcT K mg "NoDots" Cl
  c_NoMap : ∃ Cl, ExcT K mg "NoMap" Cl
  c_TooMany : ∃ Cl, ExcT K mg "TooMany" Cl
  g_FAR : ∃ t, mg "FAR" = some (.int 1000000000000 t)
  g_HEAVY : ∃ t, mg "HEAVY" = some (.int 1000000000 t)
  g_MOST_DOTS : ∃ t, mg "MOST_DOTS" = some (.int 30 t)
  b_ValueError : mg "ValueError" = none
  b_abs : mg "abs" = none
  b_bool : mg "bool" = none
  b_int : mg "int" = none
  b_isinstance : mg "isinstance" = none
  b_len : mg "len" = none
  b_list : mg "list" = none
  b_range : mg "range" = none
  b_tuple : mg "tuple" = none
  b_zip : mg "zip" = none
  nl : NoLists K
  s_NoDots_PlaneError : SubT K "NoDots" "PlaneError" true
  s_NoDots_NoDots : SubT K "NoDots" "NoDots" true
  s_NoDots_NoMap : SubT K "NoDots" "NoMap" false
  s_NoDots_TooMany : SubT K "NoDots" "TooMany" false
  s_NoDots_NoPlace : SubT K "NoDots" "NoPlace" false
  v_NoDots : SubV K "NoDots"
section
variable {P : Program} {w : World} {K : PySem.W.Frag} {mg : Str → Option Value} {base : Heap}
theorem ok_is_whole (T : Tx K mg) : CalX P w K mg base 1 "is_whole" ["thing"] (spM K 1 m_is_whole) := by
  obtain ⟨f, fd, F, hm, hb⟩ := T.f_is_whole.ex
  exact cal_body F hm hb sc_is_whole fun cdv A outer s H E hr => (bm_cons (sm_if (WM.tm (wm_or (tm_cmp (cm_isB (em_var 0))) (wm_or1 (tm_cmp (cm_isB (em_var 0)))))) (bm_cons (sm_ret em_bl)
  bm_nil) bm_nil)
  (bm_cons (sm_ret (em_isi (n := "int") T.b_int (by decide +kernel) (by simp) T.b_isinstance (em_var 0)))
  bm_nil))
theorem ok_is_near (T : Tx K mg) : CalX P w K mg base 2 "is_near" ["thing"] (spM K 1 m_is_near) := by
  obtain ⟨f, fd, F, hm, hb⟩ := T.f_is_near.ex
  exact cal_body F hm hb sc_is_near fun cdv A outer s H E hr => (bm_cons (sm_ret (em_and (em_call (ok_is_whole T) (hr.mono (by decide)) (am_cons (em_var 0) am_nil)) (em_b1 (em_cmp (cm_lt hr.units (em_abs T.b_abs (em_var 0)) (em_gint T.g_FAR))))))
  bm_nil)
theorem ok_is_dot (T : Tx K mg) : CalX P w K mg base 3 "is_dot" ["row"] (spM K 1 m_is_dot) := by
  obtain ⟨f, fd, F, hm, hb⟩ := T.f_is_dot.ex
  exact cal_body F hm hb sc_is_dot fun cdv A outer s H E hr => (bm_cons (sm_if (WM.tm (wm_or (tm_not (tm_val (em_isiT (ms := ["list", "tuple"]) T.b_isinstance (em_var 0) (fun _ _ => (ea_cons (ee_ty T.b_list) (ea_cons (ee_ty T.b_tuple) ea_nil))) (by simp)))) (wm_or1 (tm_cmp (cm_ne hr.units (em_len T.b_len (em_var 0)) em_int))))) (bm_cons (sm_ret em_bl)
  bm_nil) bm_nil)
  (show BM _ _ m_is_dot_r2 from (bm_cons (sm_if (WM.tm (wm_or (tm_not (tm_val (em_call (ok_is_near T) (hr.mono (by decide)) (am_cons (em_ix (em_var 0) em_int) am_nil)))) (wm_or (tm_not (tm_val (em_call (ok_is_near T) (hr.mono (by decide)) (am_cons (em_ix (em_var 0) em_int) am_nil)))) (wm_or (tm_not (tm_val (em_call (ok_is_whole T) (hr.mono (by decide)) (am_cons (em_ix (em_var 0) em_int) am_nil)))) (wm_or1 (tm_not (tm_val (em_call (ok_is_whole T) (hr.mono (by decide)) (am_cons (em_ix (em_var 0) em_int) am_nil))))))))) (bm_cons (sm_ret em_bl)
  bm_nil) bm_nil)
  (show BM _ _ m_is_dot_r1 from (bm_cons (sm_ret (em_and (em_chain op_le op_le em_int (em_ix (em_var 0) em_int) em_int) (em_b1 (em_chain op_le op_lt em_int (em_ix (em_var 0) em_int) (em_gint T.g_HEAVY)))))
  bm_nil)))))
theorem ok_made_dots (T : Tx K mg) : CalX P w K mg base 4 "made_dots" ["rows"] (spM K 1 m_made_dots) := by
  obtain ⟨f, fd, F, hm, hb⟩ := T.f_made_dots.ex
  exact cal_body F hm hb sc_made_dots fun cdv A outer s H E hr => (bm_cons (sm_if (WM.tm (wm_or (tm_not (tm_val (em_isi (n := "list") T.b_list (by decide +kernel) (by simp) T.b_isinstance (em_var 0)))) (wm_or1 (tm_cmp (cm_gt hr.units (em_len T.b_len (em_var 0)) (em_gint T.g_MOST_DOTS)))))) (bm_cons (Exists.elim T.c_NoDots fun _ t => sm_raise t)
  bm_nil) bm_nil)
  (show BM _ _ m_made_dots_r1 from (bm_cons (sm_for (passes_of rfl) (gm_name 1 sc_made_dots.nd) (im_val (em_var 0)) (show BM _ _ m_made_dots_b1 from (bm_cons (sm_if (tm_not (tm_val (em_call (ok_is_dot T) (hr.mono (by decide)) (am_cons (em_var 1) am_nil)))) (bm_cons (Exists.elim T.c_NoDots fun _ t => sm_raise t)
  bm_nil) bm_nil)
  bm_nil)))
  (bm_cons (sm_ret (em_lc (own := [("row", 1)]) (im_val (em_var 0)) ⟨⟨[1], by decide, by rintro _ ⟨s1, H1, c, cl, fp, rfl⟩; exact (gm_name 1 sc_made_dots.nd)⟩, (by rintro _ ⟨s1, H1, c, cl, fp, rfl⟩; exact tsm_nil), (by rintro _ ⟨s1, H1, c, cl, fp, rfl⟩; exact (em_tuple T.b_tuple (em_var 1)))⟩ (blkOk_by (N := ["rows", "row"]) (sc := defScope s_made_dots) (by decide +kernel)) sc_made_dots.nd))
  bm_nil))))
theorem ok_law_whole (T : Tx K mg) : CalX P w K mg base 1 "_law_whole" ["_law_found"] (spM K 1 m_law_whole) := by
  obtain ⟨f, fd, F, hm, hb⟩ := T.f_law_whole.ex
  exact cal_body F hm hb sc_law_whole fun cdv A outer s H E hr => (bm_cons (sm_ret (em_and (em_isi (n := "int") T.b_int (by decide +kernel) (by simp) T.b_isinstance (em_var 0)) (em_b1 (em_not (em_isi (n := "bool") T.b_bool (by decide +kernel) (by simp) T.b_isinstance (em_var 0))))))
  bm_nil)
theorem ok_law_cell_at (T : Tx K mg) : CalX P w K mg base 1 "_law_cell_at" ["_law_script", "_law_k"] (spM K 2 m_law_cell_at) := by
  obtain ⟨f, fd, F, hm, hb⟩ := T.f_law_cell_at.ex
  exact cal_body F hm hb sc_law_cell_at fun cdv A outer s H E hr => (bm_cons (sm_if (tm_cmp (cm_lt hr.units (em_var 1) (em_len T.b_len (em_var 0)))) (bm_cons (sm_ret (em_ix (em_var 0) (em_var 1)))
  bm_nil) bm_nil)
  (bm_cons (sm_ret em_int)
  bm_nil))
theorem ok_law_stream (T : Tx K mg) : CalX P w K mg base 1 "_law_stream" ["_law_cell", "_law_many"] (spM K 2 m_law_stream) := by
  obtain ⟨f, fd, F, hm, hb⟩ := T.f_law_stream.ex
  exact cal_body F hm hb sc_law_stream fun cdv A outer s H E hr => (bm_cons (sm_setO 2 (em_lst am_nil) sc_law_stream.nd)
  (bm_cons (sm_set 3 (em_add (em_mod (em_var 0) em_int) em_int) sc_law_stream.nd)
  (bm_cons (sm_for (passes_of rfl) (gm_name 4 sc_law_stream.nd) (im_range1 T.b_range (em_var 1)) (show BM _ _ m_law_stream_b1 from (bm_cons (sm_set 3 (em_mod (em_add (em_add (em_mul (em_var 3) em_int) (em_mul (em_var 4) (em_var 4))) em_int) em_int) sc_law_stream.nd)
  (bm_cons (sm_app 2 (em_div (em_var 3) em_int))
  bm_nil))))
  (bm_cons (sm_retV 2)
  bm_nil))))
theorem ok_law_far (T : Tx K mg) : CalX P w K mg base 1 "_law_far" ["_law_number"] (spM K 1 m_law_far) := by
  obtain ⟨f, fd, F, hm, hb⟩ := T.f_law_far.ex
  exact cal_body F hm hb sc_law_far fun cdv A outer s H E hr => (bm_cons (sm_if (tm_cmp (cm_eq hr.units (em_mod (em_var 0) em_int) em_int)) (bm_cons (sm_ret (em_sub (em_mod (em_div (em_var 0) em_int) em_int) em_int))
  bm_nil) bm_nil)
  (bm_cons (sm_if (tm_cmp (cm_eq hr.units (em_mod (em_var 0) em_int) em_int)) (show BM _ _ m_law_far_i1 from (bm_cons (sm_ret (em_ix (em_lst (am_cons (em_sub (em_pow em_int em_int) em_int) (am_cons (em_sub em_int (em_pow em_int em_int)) am_nil))) (em_mod (em_div (em_var 0) em_int) em_int)))
  bm_nil)) bm_nil)
  (show BM _ _ m_law_far_r1 from (bm_cons (sm_ret (em_add (em_sub (em_mod (em_mul (em_var 0) em_int) (em_sub (em_mul em_int (em_pow em_int em_int)) em_int)) (em_pow em_int em_int)) em_int))
  bm_nil))))
theorem ok_law_heavy (T : Tx K mg) : CalX P w K mg base 1 "_law_heavy" ["_law_number"] (spM K 1 m_law_heavy) := by
  obtain ⟨f, fd, F, hm, hb⟩ := T.f_law_heavy.ex
  exact cal_body F hm hb sc_law_heavy fun cdv A outer s H E hr => (bm_cons (sm_if (tm_cmp (cm_eq hr.units (em_mod (em_var 0) em_int) em_int)) (bm_cons (sm_ret (em_add em_int (em_mod (em_div (em_var 0) em_int) em_int)))
  bm_nil) bm_nil)
  (show BM _ _ m_law_heavy_r2 from (bm_cons (sm_if (tm_cmp (cm_eq hr.units (em_mod (em_var 0) em_int) em_int)) (bm_cons (sm_ret (em_sub (em_pow em_int em_int) em_int))
  bm_nil) bm_nil)
  (show BM _ _ m_law_heavy_r1 from (bm_cons (sm_ret (em_add em_int (em_mod (em_mul (em_var 0) em_int) (em_sub (em_pow em_int em_int) em_int))))
  bm_nil)))))
theorem ok_law_row (T : Tx K mg) : CalX P w K mg base 2 "_law_row" ["_law_cell"] (spM K 1 m_law_row) := by
  obtain ⟨f, fd, F, hm, hb⟩ := T.f_law_row.ex
  exact cal_body F hm hb sc_law_row fun cdv A outer s H E hr => (bm_cons (sm_set 1 (em_call (ok_law_stream T) (hr.mono (by decide)) (am_cons (em_var 0) (am_cons em_int am_nil))) sc_law_row.nd)
  (bm_cons (sm_set 2 (em_lst (am_cons (em_call (ok_law_far T) (hr.mono (by decide)) (am_cons (em_ix (em_var 1) em_int) am_nil)) (am_cons (em_call (ok_law_far T) (hr.mono (by decide)) (am_cons (em_ix (em_var 1) em_int) am_nil)) (am_cons (em_mod (em_ix (em_var 1) em_int) em_int) (am_cons (em_call (ok_law_heavy T) (hr.mono (by decide)) (am_cons (em_ix (em_var 1) em_int) am_nil)) am_nil))))) sc_law_row.nd)
  (bm_cons (sm_if (tm_cmp (cm_eq hr.units (em_mod (em_ix (em_var 1) em_int) em_int) em_int)) (bm_cons (sm_ret (em_tuple T.b_tuple (em_var 2)))
  bm_nil) bm_nil)
  (bm_cons (sm_retV 2)
  bm_nil))))
theorem ok_law_bad (T : Tx K mg) : CalX P w K mg base 1 "_law_bad" ["_law_number", "_law_row_here"] (spM K 2 m_law_bad) := by
  obtain ⟨f, fd, F, hm, hb⟩ := T.f_law_bad.ex
  exact cal_body F hm hb sc_law_bad fun cdv A outer s H E hr => (bm_cons (sm_asg (em_var 1) (gm_tup (gsm_cons (gm_name 2 sc_law_bad.nd) (gsm_cons (gm_name 3 sc_law_bad.nd) (gsm_cons (gm_name 4 sc_law_bad.nd) (gsm_cons (gm_name 5 sc_law_bad.nd) gsm_nil))))))
  (bm_cons (sm_set 6 (em_lst (am_cons (em_lst (am_cons (em_var 2) (am_cons (em_var 3) (am_cons (em_var 4) am_nil)))) (am_cons (em_lst (am_cons (em_var 2) (am_cons (em_var 3) (am_cons (em_var 4) (am_cons (em_var 5) (am_cons em_int am_nil)))))) (am_cons (em_lst am_nil) (am_cons em_non (am_cons em_int (am_cons em_str am_nil))))))) sc_law_bad.nd)
  (bm_cons (sm_set 6 (em_add (em_var 6) (em_lst (am_cons (em_tup (am_cons (em_pow em_int em_int) (am_cons (em_var 3) (am_cons (em_var 4) (am_cons (em_var 5) am_nil))))) (am_cons (em_tup (am_cons (em_var 2) (am_cons (em_sub em_int (em_pow em_int em_int)) (am_cons (em_var 4) (am_cons (em_var 5) am_nil))))) am_nil)))) sc_law_bad.nd)
  (bm_cons (sm_set 6 (em_add (em_var 6) (em_lst (am_cons (em_lst (am_cons (em_var 2) (am_cons (em_var 3) (am_cons em_int (am_cons (em_var 5) am_nil))))) (am_cons (em_tup (am_cons (em_var 2) (am_cons (em_var 3) (am_cons (em_neg em_int) (am_cons (em_var 5) am_nil))))) (am_cons (em_lst (am_cons (em_var 2) (am_cons (em_var 3) (am_cons (em_var 4) (am_cons em_int am_nil))))) (am_cons (em_tup (am_cons (em_var 2) (am_cons (em_var 3) (am_cons (em_var 4) (am_cons (em_neg em_int) am_nil))))) am_nil)))))) sc_law_bad.nd)
  (bm_cons (sm_set 6 (em_add (em_var 6) (em_lst (am_cons (em_lst (am_cons (em_var 2) (am_cons (em_var 3) (am_cons (em_var 4) (am_cons (em_pow em_int em_int) am_nil))))) (am_cons (em_tup (am_cons em_bl (am_cons (em_var 3) (am_cons (em_var 4) (am_cons (em_var 5) am_nil))))) (am_cons (em_lst (am_cons (em_var 2) (am_cons em_non (am_cons (em_var 4) (am_cons (em_var 5) am_nil))))) am_nil))))) sc_law_bad.nd)
  (bm_cons (sm_set 6 (em_add (em_var 6) (em_lst (am_cons (em_tup (am_cons (em_var 2) (am_cons (em_var 3) (am_cons em_bl (am_cons (em_var 5) am_nil))))) (am_cons (em_tup (am_cons (em_var 2) (am_cons (em_var 3) (am_cons (em_var 4) (am_cons em_bl am_nil))))) (am_cons (em_lst (am_cons em_str (am_cons (em_var 3) (am_cons (em_var 4) (am_cons (em_var 5) am_nil))))) am_nil))))) sc_law_bad.nd)
  (bm_cons (sm_ret (em_ix (em_add (em_var 6) (em_lst (am_cons (em_tup (am_cons (em_var 2) (am_cons (em_var 3) (am_cons em_str (am_cons (em_var 5) am_nil))))) (am_cons (em_tup (am_cons (em_var 2) (am_cons (em_var 3) (am_cons em_non (am_cons (em_var 5) am_nil))))) (am_cons em_dct0 (am_cons em_dct4 am_nil)))))) (em_mod (em_var 0) em_int)))
  bm_nil)))))))
theorem ok_law_refused (T : Tx K mg) : CalX P w K mg base 5 "_law_refused" ["_law_rows"] (spM K 1 m_law_refused) := by
  obtain ⟨f, fd, F, hm, hb⟩ := T.f_law_refused.ex
  exact cal_body F hm hb sc_law_refused fun cdv A outer s H E hr => (bm_cons (sm_set 1 em_non sc_law_refused.nd)
  (bm_cons (Exists.elim T.c_PlaneError fun _ t => sm_try 2 t.gC sc_law_refused.nd (caught_cons t T.s_NoDots_PlaneError caught_nil) (fun pn1 xe1 hp1 => (bm_cons (sm_drop (em_call (ok_made_dots T) (hr.mono (by decide)) (am_cons (em_var 0) am_nil)))
  bm_nil)) (fun a1 pn1 => (bm_cons (sm_set 1 (em_var 2) sc_law_refused.nd)
  bm_nil)))
  (show BM _ _ m_law_refused_r2 from (bm_cons (sm_if (WM.tm (wm_or (tm_cmp (cm_isN (em_var 1))) (wm_or (tm_not (tm_val (Exists.elim T.c_NoDots fun _ t => em_isx T.b_isinstance (fun _ _ => ee_cls t.gC) (.own _) (subOk_own T.c_NoDots t T.s_NoDots_NoDots subOk_nil) (em_var 1)))) (wm_or1 (tm_not (tm_val (em_isx T.b_isinstance (fun _ _ => ee_ty T.b_ValueError) (.ty _) (subOk_ve T.c_NoDots T.v_NoDots subOk_nil) (em_var 1)))))))) (bm_cons (sm_ret em_bl)
  bm_nil) bm_nil)
  (show BM _ _ m_law_refused_r1 from (bm_cons (sm_ret (em_and (em_not (Exists.elim T.c_NoMap fun _ t => em_isx T.b_isinstance (fun _ _ => ee_cls t.gC) (.own _) (subOk_own T.c_NoDots t T.s_NoDots_NoMap subOk_nil) (em_var 1))) (em_and (em_not (Exists.elim T.c_TooMany fun _ t => em_isx T.b_isinstance (fun _ _ => ee_cls t.gC) (.own _) (subOk_own T.c_NoDots t T.s_NoDots_TooMany subOk_nil) (em_var 1))) (em_b1 (em_not (Exists.elim T.c_NoPlace fun _ t => em_isx T.b_isinstance (fun _ _ => ee_cls t.gC) (.own _) (subOk_own T.c_NoDots t T.s_NoDots_NoPlace subOk_nil) (em_var 1)))))))
  bm_nil))))))
theorem ok_law_good (T : Tx K mg) : CalX P w K mg base 2 "_law_good" ["_law_found", "_law_rows"] (spM K 2 m_law_good) := by
  obtain ⟨f, fd, F, hm, hb⟩ := T.f_law_good.ex
  exact cal_body F hm hb sc_law_good fun cdv A outer s H E hr => (bm_cons (sm_if (WM.tm (wm_or (tm_not (tm_val (em_isi (n := "list") T.b_list (by decide +kernel) (by simp) T.b_isinstance (em_var 0)))) (wm_or1 (tm_cmp (cm_ne hr.units (em_len T.b_len (em_var 0)) (em_len T.b_len (em_var 1))))))) (bm_cons (sm_ret em_bl)
  bm_nil) bm_nil)
  (show BM _ _ m_law_good_r1 from (bm_cons (sm_for (passes_of rfl) (gm_tup (gsm_cons (gm_name 2 sc_law_good.nd) (gsm_cons (gm_name 3 sc_law_good.nd) gsm_nil))) (im_zipA T.b_zip (em_var 0) (em_var 1)) (show BM _ _ m_law_good_b1 from (bm_cons (sm_if (WM.tm (wm_or (tm_not (tm_val (em_isi (n := "tuple") T.b_tuple (by decide +kernel) (by simp) T.b_isinstance (em_var 2)))) (wm_or1 (tm_cmp (cm_ne hr.units (em_len T.b_len (em_var 2)) em_int))))) (bm_cons (sm_ret em_bl)
  bm_nil) bm_nil)
  (bm_cons (sm_for (passes_of rfl) (gm_tup (gsm_cons (gm_name 4 sc_law_good.nd) (gsm_cons (gm_name 5 sc_law_good.nd) gsm_nil))) (im_zipA T.b_zip (em_var 2) (em_var 3)) (show BM _ _ m_law_good_b2 from (bm_cons (sm_if (WM.tm (wm_or (tm_not (tm_val (em_call (ok_law_whole T) (hr.mono (by decide)) (am_cons (em_var 4) am_nil)))) (wm_or1 (tm_cmp (cm_ne hr.units (em_var 4) (em_var 5)))))) (bm_cons (sm_ret em_bl)
  bm_nil) bm_nil)
  bm_nil)))
  bm_nil))))
  (bm_cons (sm_ret em_bl)
  bm_nil))))
theorem ok_law_copy (T : Tx K mg) : CalT P w K mg base 1 "_law_copy" ["_law_row_here"] m_law_copy := by
  obtain ⟨f, fd, F, hm, hb⟩ := T.f_law_copy.ex
  exact calT_if F hm hb sc_law_copy rfl (fun cdv A outer s H E hr => (tm_val (em_isi (n := "list") T.b_list (by decide +kernel) (by simp) T.b_isinstance (em_var 0)))) (fun cdv A outer s H E hr => (xm_of (em_list T.b_list (em_var 0)))) (fun cdv A outer s H E hr => (xm_of (em_var 0)))
theorem fn_law (T : Tx K mg) {f : Addr} {fd : FuncData} (F : Fun K "law" "law" s_law f fd) : FnOk P w K mg base CX0 6 f fd ["_law_script"] (spLaw K) :=
  law_body F sc_law rfl law_true fun cdv A outer s H E hr => (bm_cons (sm_set 1 (em_call (ok_law_cell_at T) (hr.mono (by decide)) (am_cons (em_var 0) (am_cons em_int am_nil))) sc_law.nd)
  (bm_cons (sm_set 2 (em_add (em_sl (em_var 0) (om_some em_int) (om_some em_int)) (em_call (ok_law_stream T) (hr.mono (by decide)) (am_cons (em_var 1) (am_cons (em_mod (em_var 1) em_int) am_nil)))) sc_law.nd)
  (bm_cons (sm_setLc 4 (own := [("_law_cell", 3)]) (im_val (em_sl (em_var 2) om_none (om_some em_int))) ⟨⟨[3], by decide, by rintro _ ⟨s1, H1, c, cl, fp, rfl⟩; exact (gm_name 3 sc_law.nd)⟩, (by rintro _ ⟨s1, H1, c, cl, fp, rfl⟩; exact tsm_nil), (by rintro _ ⟨s1, H1, c, cl, fp, rfl⟩; exact (em_call (ok_law_row T) (hr.mono (by decide)) (am_cons (em_var 3) am_nil)))⟩ (blkOk_by (N := ["_law_script", "_law_first", "_law_cells", "_law_cell", "_law_rows", "_law_row_here", "_law_handed", "_law_found", "_law_bad_here", "_law_at", "_law_number", "_law_many"]) (sc := defScope s_law) (by decide +kernel)) sc_law.nd)
  (bm_cons (sm_setXLc 6 (own := [("_law_row_here", 5)]) (im_val (em_var 4)) ⟨⟨[5], by decide, by rintro _ ⟨s1, H1, c, cl, fp, rfl⟩; exact (gm_name 5 sc_law.nd)⟩, (by rintro _ ⟨s1, H1, c, cl, fp, rfl⟩; exact (xm_callT (ok_law_copy T) (hr.mono (by decide)) (am_cons (em_var 5) am_nil)))⟩ (blkOk_by (N := ["_law_script", "_law_first", "_law_cells", "_law_cell", "_law_rows", "_law_row_here", "_law_handed", "_law_found", "_law_bad_here", "_law_at", "_law_number", "_law_many"]) (sc := defScope s_law) (by decide +kernel)) sc_law.nd)
  (bm_cons (sm_setO 7 (em_bor 6 (em_call (ok_made_dots T) (hr.mono (by decide)) (am_cons (em_var 6) am_nil))) sc_law.nd)
  (bm_cons (sm_if (tm_bor 6 (WM.tm (wm_or (tm_not (tm_val (em_callO (ok_law_good T) (hr.mono (by decide)) (vm_var 7 (vm_cons (em_var 4) vm_nil))))) (wm_or1 (tm_cmp (cm_ne hr.units (em_var 6) (em_var 4))))))) (bm_cons (sm_ret em_bl)
  bm_nil) bm_nil)
  (bm_cons (sm_mark 6 5 (em_mod (em_var 1) em_int) T.b_isinstance T.b_list PassesOwn.never sc_law.nd)
  (show BM _ _ m_law_r5 from (bm_cons (sm_appR 6 em_non)
  (bm_frz (bm_cons (sm_if (WM.tm (wm_or (tm_not (tm_val (em_callO (ok_law_good T) (hr.mono (by decide)) (vm_var 7 (vm_cons (em_var 4) vm_nil))))) (wm_or1 (tm_not (tm_val (em_call (ok_law_refused T) (hr.mono (by decide)) (am_cons (em_var 6) am_nil))))))) (bm_cons (sm_ret em_bl)
  bm_nil) bm_nil)
  (show BM _ _ m_law_r4 from (bm_cons (sm_set 8 (em_call (ok_law_bad T) (hr.mono (by decide)) (am_cons (em_div (em_var 1) em_int) (am_cons (em_call (ok_law_row T) (hr.mono (by decide)) (am_cons (em_var 1) am_nil)) am_nil))) sc_law.nd)
  (bm_cons (sm_set 9 (em_mod (em_div (em_var 1) em_int) (em_add (em_len T.b_len (em_var 4)) em_int)) sc_law.nd)
  (bm_cons (sm_if (tm_not (tm_val (em_call (ok_law_refused T) (hr.mono (by decide)) (am_cons (em_add (em_add (em_sl (em_var 4) om_none (om_some (em_var 9))) (em_lst (am_cons (em_var 8) am_nil))) (em_sl (em_var 4) (om_some (em_var 9)) om_none)) am_nil)))) (bm_cons (sm_ret em_bl)
  bm_nil) bm_nil)
  (show BM _ _ m_law_r3 from (bm_cons (sm_if (tm_not (tm_val (em_call (ok_law_refused T) (hr.mono (by decide)) (am_cons (em_ix (em_lst (am_cons (em_tuple T.b_tuple (em_var 4)) (am_cons em_non (am_cons em_int (am_cons em_str (am_cons em_dct0 (am_cons em_bl am_nil))))))) (em_mod (em_div (em_var 1) em_int) em_int)) am_nil)))) (bm_cons (sm_ret em_bl)
  bm_nil) bm_nil)
  (show BM _ _ m_law_r2 from (bm_cons (sm_setLc 11 (own := [("_law_number", 10)]) (im_val (em_call (ok_law_stream T) (hr.mono (by decide)) (am_cons (em_var 1) (am_cons (em_add (em_sub em_int (em_len T.b_len (em_var 4))) (em_mod (em_var 1) em_int)) am_nil)))) ⟨⟨[10], by decide, by rintro _ ⟨s1, H1, c, cl, fp, rfl⟩; exact (gm_name 10 sc_law.nd)⟩, (by rintro _ ⟨s1, H1, c, cl, fp, rfl⟩; exact tsm_nil), (by rintro _ ⟨s1, H1, c, cl, fp, rfl⟩; exact (em_call (ok_law_row T) (hr.mono (by decide)) (am_cons (em_var 10) am_nil)))⟩ (blkOk_by (N := ["_law_script", "_law_first", "_law_cells", "_law_cell", "_law_rows", "_law_row_here", "_law_handed", "_law_found", "_law_bad_here", "_law_at", "_law_number", "_law_many"]) (sc := defScope s_law) (by decide +kernel)) sc_law.nd)
  (bm_cons (sm_if (tm_not (tm_val (em_call (ok_law_refused T) (hr.mono (by decide)) (am_cons (em_add (em_var 4) (em_var 11)) am_nil)))) (bm_cons (sm_ret em_bl)
  bm_nil) bm_nil)
  (show BM _ _ m_law_r1 from (bm_cons (sm_app 7 em_int)
  (bm_cons (sm_ret (em_and (em_call (ok_law_good T) (hr.mono (by decide)) (am_cons (em_call (ok_made_dots T) (hr.mono (by decide)) (am_cons (em_var 4) am_nil)) (am_cons (em_var 4) am_nil))) (em_b1 (em_call (ok_law_good T) (hr.mono (by decide)) (am_cons (em_call (ok_made_dots T) (hr.mono (by decide)) (am_cons (em_lst am_nil) am_nil)) (am_cons (em_lst am_nil) am_nil))))))
  bm_nil))))))))))))) [6]))))))))))
end
end DL
open PySem PySem.W PyProof.Rows
set_option maxHeartbeats 0 in
theorem PySem.Challenge.cw_halvecut_k11_dots_made_holds : PySem.Challenge.rw_halvecut_k11_dots_made.Holds := by
  w_on; o_law; k_head; (case hw => w_witness2)
  k_fill
  refine L2.walk_ofL (l := PySem.Challenge.rw_halvecut_k11_dots_made) (n := 63) (k := 6) (x := "_law_script") (CX := fun _ => L2.CX0) (sp := fun w => DL.spLaw _) rfl (by decide) rfl ⟨rfl, by decide, by decide⟩ (fun w h Y => PySem.W.kIn_of Y) ?F (fun _ _ a ns hl hb _ hS => DL.law_asks hl hb hS) (fun _ _ _ _ _ h => h)
  case F =>
    intro w mg fa h KX G hX hC hmg
    replace hmg : mg "law" = some (.ref fa) := hmg
    have at_is_whole : DL.At (L2.KOf KX) mg "is_whole" DL.s_is_whole ["thing"] := by
      refine' DL.at_mk KX G ?a ?l ?c ?k ?b; (case a => ((try dsimp only [L2.KOf]); k_is)); (case l => ((try dsimp only [L2.KOf]); k_is)); (case c => ((try dsimp only [L2.KOf]); k_is)); (case k => ((try dsimp only [L2.KOf]); k_is)); (case b => exact fun _ _ _ _ _ _ us hl => match us, hl with | [_], _ => rfl)
    have at_is_near : DL.At (L2.KOf KX) mg "is_near" DL.s_is_near ["thing"] := by
      refine' DL.at_mk KX G ?a ?l ?c ?k ?b; (case a => ((try dsimp only [L2.KOf]); k_is)); (case l => ((try dsimp only [L2.KOf]); k_is)); (case c => ((try dsimp only [L2.KOf]); k_is)); (case k => ((try dsimp only [L2.KOf]); k_is)); (case b => exact fun _ _ _ _ _ _ us hl => match us, hl with | [_], _ => rfl)
    have at_is_dot : DL.At (L2.KOf KX) mg "is_dot" DL.s_is_dot ["row"] := by
      refine' DL.at_mk KX G ?a ?l ?c ?k ?b; (case a => ((try dsimp only [L2.KOf]); k_is)); (case l => ((try dsimp only [L2.KOf]); k_is)); (case c => ((try dsimp only [L2.KOf]); k_is)); (case k => ((try dsimp only [L2.KOf]); k_is)); (case b => exact fun _ _ _ _ _ _ us hl => match us, hl with | [_], _ => rfl)
    have at_made_dots : DL.At (L2.KOf KX) mg "made_dots" DL.s_made_dots ["rows"] := by
      refine' DL.at_mk KX G ?a ?l ?c ?k ?b; (case a => ((try dsimp only [L2.KOf]); k_is)); (case l => ((try dsimp only [L2.KOf]); k_is)); (case c => ((try dsimp only [L2.KOf]); k_is)); (case k => ((try dsimp only [L2.KOf]); k_is)); (case b => exact fun _ _ _ _ _ _ us hl => match us, hl with | [_], _ => rfl)
    have at_law_whole : DL.At (L2.KOf KX) mg "_law_whole" DL.s_law_whole ["_law_found"] := by
      refine' DL.at_mk KX G ?a ?l ?c ?k ?b; (case a => ((try dsimp only [L2.KOf]); k_is)); (case l => ((try dsimp only [L2.KOf]); k_is)); (case c => ((try dsimp only [L2.KOf]); k_is)); (case k => ((try dsimp only [L2.KOf]); k_is)); (case b => exact fun _ _ _ _ _ _ us hl => match us, hl with | [_], _ => rfl)
    have at_law_cell_at : DL.At (L2.KOf KX) mg "_law_cell_at" DL.s_law_cell_at ["_law_script", "_law_k"] := by
      refine' DL.at_mk KX G ?a ?l ?c ?k ?b; (case a => ((try dsimp only [L2.KOf]); k_is)); (case l => ((try dsimp only [L2.KOf]); k_is)); (case c => ((try dsimp only [L2.KOf]); k_is)); (case k => ((try dsimp only [L2.KOf]); k_is)); (case b => exact fun _ _ _ _ _ _ us hl => match us, hl with | [_, _], _ => rfl)
    have at_law_stream : DL.At (L2.KOf KX) mg "_law_stream" DL.s_law_stream ["_law_cell", "_law_many"] := by
      refine' DL.at_mk KX G ?a ?l ?c ?k ?b; (case a => ((try dsimp only [L2.KOf]); k_is)); (case l => ((try dsimp only [L2.KOf]); k_is)); (case c => ((try dsimp only [L2.KOf]); k_is)); (case k => ((try dsimp only [L2.KOf]); k_is)); (case b => exact fun _ _ _ _ _ _ us hl => match us, hl with | [_, _], _ => rfl)
    have at_law_far : DL.At (L2.KOf KX) mg "_law_far" DL.s_law_far ["_law_number"] := by
      refine' DL.at_mk KX G ?a ?l ?c ?k ?b; (case a => ((try dsimp only [L2.KOf]); k_is)); (case l => ((try dsimp only [L2.KOf]); k_is)); (case c => ((try dsimp only [L2.KOf]); k_is)); (case k => ((try dsimp only [L2.KOf]); k_is)); (case b => exact fun _ _ _ _ _ _ us hl => match us, hl with | [_], _ => rfl)
    have at_law_heavy : DL.At (L2.KOf KX) mg "_law_heavy" DL.s_law_heavy ["_law_number"] := by
      refine' DL.at_mk KX G ?a ?l ?c ?k ?b; (case a => ((try dsimp only [L2.KOf]); k_is)); (case l => ((try dsimp only [L2.KOf]); k_is)); (case c => ((try dsimp only [L2.KOf]); k_is)); (case k => ((try dsimp only [L2.KOf]); k_is)); (case b => exact fun _ _ _ _ _ _ us hl => match us, hl with | [_], _ => rfl)
    have at_law_row : DL.At (L2.KOf KX) mg "_law_row" DL.s_law_row ["_law_cell"] := by
      refine' DL.at_mk KX G ?a ?l ?c ?k ?b; (case a => ((try dsimp only [L2.KOf]); k_is)); (case l => ((try dsimp only [L2.KOf]); k_is)); (case c => ((try dsimp only [L2.KOf]); k_is)); (case k => ((try dsimp only [L2.KOf]); k_is)); (case b => exact fun _ _ _ _ _ _ us hl => match us, hl with | [_], _ => rfl)
    have at_law_bad : DL.At (L2.KOf KX) mg "_law_bad" DL.s_law_bad ["_law_number", "_law_row_here"] := by
      refine' DL.at_mk KX G ?a ?l ?c ?k ?b; (case a => ((try dsimp only [L2.KOf]); k_is)); (case l => ((try dsimp only [L2.KOf]); k_is)); (case c => ((try dsimp only [L2.KOf]); k_is)); (case k => ((try dsimp only [L2.KOf]); k_is)); (case b => exact fun _ _ _ _ _ _ us hl => match us, hl with | [_, _], _ => rfl)
    have at_law_refused : DL.At (L2.KOf KX) mg "_law_refused" DL.s_law_refused ["_law_rows"] := by
      refine' DL.at_mk KX G ?a ?l ?c ?k ?b; (case a => ((try dsimp only [L2.KOf]); k_is)); (case l => ((try dsimp only [L2.KOf]); k_is)); (case c => ((try dsimp only [L2.KOf]); k_is)); (case k => ((try dsimp only [L2.KOf]); k_is)); (case b => exact fun _ _ _ _ _ _ us hl => match us, hl with | [_], _ => rfl)
    have at_law_good : DL.At (L2.KOf KX) mg "_law_good" DL.s_law_good ["_law_found", "_law_rows"] := by
      refine' DL.at_mk KX G ?a ?l ?c ?k ?b; (case a => ((try dsimp only [L2.KOf]); k_is)); (case l => ((try dsimp only [L2.KOf]); k_is)); (case c => ((try dsimp only [L2.KOf]); k_is)); (case k => ((try dsimp only [L2.KOf]); k_is)); (case b => exact fun _ _ _ _ _ _ us hl => match us, hl with | [_, _], _ => rfl)
    have at_law_copy : DL.At (L2.KOf KX) mg "_law_copy" DL.s_law_copy ["_law_row_here"] := by
      refine' DL.at_mk KX G ?a ?l ?c ?k ?b; (case a => ((try dsimp only [L2.KOf]); k_is)); (case l => ((try dsimp only [L2.KOf]); k_is)); (case c => ((try dsimp only [L2.KOf]); k_is)); (case k => ((try dsimp only [L2.KOf]); k_is)); (case b => exact fun _ _ _ _ _ _ us hl => match us, hl with | [_], _ => rfl)
    have ex_PlaneError : ∃ Cl, DL.ExcT (L2.KOf KX) mg "PlaneError" Cl := by
      refine' ⟨_, DL.exc_mk KX G ?a_PlaneError ?x_PlaneError ?k_PlaneError ?b_PlaneError ?t_PlaneError ?g_PlaneError ?q_PlaneError ?h_PlaneError ?c_PlaneError ?n_PlaneError ?tk_PlaneError ?mr_PlaneError⟩
      (case a_PlaneError => first | ((try dsimp only [L2.KOf]); k_is) | ((try dsimp only [L2.KOf]); k_exc) | rfl)
      (case x_PlaneError => first | ((try dsimp only [L2.KOf]); k_is) | ((try dsimp only [L2.KOf]); k_exc) | rfl)
      (case k_PlaneError => first | ((try dsimp only [L2.KOf]); k_is) | ((try dsimp only [L2.KOf]); k_exc) | rfl)
      (case b_PlaneError => first | ((try dsimp only [L2.KOf]); k_is) | ((try dsimp only [L2.KOf]); k_exc) | rfl)
      (case t_PlaneError => first | ((try dsimp only [L2.KOf]); k_is) | ((try dsimp only [L2.KOf]); k_exc) | rfl)
      (case g_PlaneError => first | ((try dsimp only [L2.KOf]); k_is) | ((try dsimp only [L2.KOf]); k_exc) | rfl)
      (case q_PlaneError => first | ((try dsimp only [L2.KOf]); k_is) | ((try dsimp only [L2.KOf]); k_exc) | rfl)
      (case h_PlaneError => first | ((try dsimp only [L2.KOf]); k_is) | ((try dsimp only [L2.KOf]); k_exc) | rfl)
      (case c_PlaneError => first | ((try dsimp only [L2.KOf]); k_is) | ((try dsimp only [L2.KOf]); k_exc) | rfl)
      (case n_PlaneError => first | ((try dsimp only [L2.KOf]); k_is) | ((try dsimp only [L2.KOf]); k_exc) | rfl)
      (case tk_PlaneError => first | ((try dsimp only [L2.KOf]); k_is) | ((try dsimp only [L2.KOf]); k_exc) | rfl)
      (case mr_PlaneError => first | ((try dsimp only [L2.KOf]); k_is) | ((try dsimp only [L2.KOf]); k_exc) | rfl)
    have ex_NoPlace : ∃ Cl, DL.ExcT (L2.KOf KX) mg "NoPlace" Cl := by
      refine' ⟨_, DL.exc_mk KX G ?a_NoPlace ?x_NoPlace ?k_NoPlace ?b_NoPlace ?t_NoPlace ?g_NoPlace ?q_NoPlace ?h_NoPlace ?c_NoPlace ?n_NoPlace ?tk_NoPlace ?mr_NoPlace⟩
      (case a_NoPlace => first | ((try dsimp only [L2.KOf]); k_is) | ((try dsimp only [L2.KOf]); k_exc) | rfl)
      (case x_NoPlace => first | ((try dsimp only [L2.KOf]); k_is) | ((try dsimp only [L2.KOf]); k_exc) | rfl)
      (case k_NoPlace => first | ((try dsimp only [L2.KOf]); k_is) | ((try dsimp only [L2.KOf]); k_exc) | rfl)
      (case b_NoPlace => first | ((try dsimp only [L2.KOf]); k_is) | ((try dsimp only [L2.KOf]); k_exc) | rfl)
      (case t_NoPlace => first | ((try dsimp only [L2.KOf]); k_is) | ((try dsimp only [L2.KOf]); k_exc) | rfl)
      (case g_NoPlace => first | ((try dsimp only [L2.KOf]); k_is) | ((try dsimp only [L2.KOf]); k_exc) | rfl)
      (case q_NoPlace => first | ((try dsimp only [L2.KOf]); k_is) | ((try dsimp only [L2.KOf]); k_exc) | rfl)
      (case h_NoPlace => first | ((try dsimp only [L2.KOf]); k_is) | ((try dsimp only [L2.KOf]); k_exc) | rfl)
      (case c_NoPlace => first | ((try dsimp only [L2.KOf]); k_is) | ((try dsimp only [L2.KOf]); k_exc) | rfl)
      (case n_NoPlace => first | ((try dsimp only [L2.KOf]); k_is) | ((try dsimp only [L2.KOf]); k_exc) | rfl)
      (case tk_NoPlace => first | ((try dsimp only [L2.KOf]); k_is) | ((try dsimp only [L2.KOf]); k_exc) | rfl)
      (case mr_NoPlace => first | ((try dsimp only [L2.KOf]); k_is) | ((try dsimp only [L2.KOf]); k_exc) | rfl)
    have ex_NoDots : ∃ Cl, DL.ExcT (L2.KOf KX) mg "NoDots" Cl := by
      refine' ⟨_, DL.exc_mk KX G ?a_NoDots ?x_NoDots ?k_NoDots ?b_NoDots ?t_NoDots ?g_NoDots ?q_NoDots ?h_NoDots ?c_NoDots ?n_NoDots ?tk_NoDots ?mr_NoDots⟩
      (case a_NoDots => first | ((try dsimp only [L2.KOf]); k_is) | ((try dsimp only [L2.KOf]); k_exc) | rfl)
      (case x_NoDots => first | ((try dsimp only [L2.KOf]); k_is) | ((try dsimp only [L2.KOf]); k_exc) | rfl)
      (case k_NoDots => first | ((try dsimp only [L2.KOf]); k_is) | ((try dsimp only [L2.KOf]); k_exc) | rfl)
      (case b_NoDots => first | ((try dsimp only [L2.KOf]); k_is) | ((try dsimp only [L2.KOf]); k_exc) | rfl)
      (case t_NoDots => first | ((try dsimp only [L2.KOf]); k_is) | ((try dsimp only [L2.KOf]); k_exc) | rfl)
      (case g_NoDots => first | ((try dsimp only [L2.KOf]); k_is) | ((try dsimp only [L2.KOf]); k_exc) | rfl)
      (case q_NoDots => first | ((try dsimp only [L2.KOf]); k_is) | ((try dsimp only [L2.KOf]); k_exc) | rfl)
      (case h_NoDots => first | ((try dsimp only [L2.KOf]); k_is) | ((try dsimp only [L2.KOf]); k_exc) | rfl)
      (case c_NoDots => first | ((try dsimp only [L2.KOf]); k_is) | ((try dsimp only [L2.KOf]); k_exc) | rfl)
      (case n_NoDots => first | ((try dsimp only [L2.KOf]); k_is) | ((try dsimp only [L2.KOf]); k_exc) | rfl)
      (case tk_NoDots => first | ((try dsimp only [L2.KOf]); k_is) | ((try dsimp only [L2.KOf]); k_exc) | rfl)
      (case mr_NoDots => first | ((try dsimp only [L2.KOf]); k_is) | ((try dsimp only [L2.KOf]); k_exc) | rfl)
    have ex_NoMap : ∃ Cl, DL.ExcT (L2.KOf KX) mg "NoMap" Cl := by
      refine' ⟨_, DL.exc_mk KX G ?a_NoMap ?x_NoMap ?k_NoMap ?b_NoMap ?t_NoMap ?g_NoMap ?q_NoMap ?h_NoMap ?c_NoMap ?n_NoMap ?tk_NoMap ?mr_NoMap⟩
      (case a_NoMap => first | ((try dsimp only [L2.KOf]); k_is) | ((try dsimp only [L2.KOf]); k_exc) | rfl)
      (case x_NoMap => first | ((try dsimp only [L2.KOf]); k_is) | ((try dsimp only [L2.KOf]); k_exc) | rfl)
      (case k_NoMap => first | ((try dsimp only [L2.KOf]); k_is) | ((try dsimp only [L2.KOf]); k_exc) | rfl)
      (case b_NoMap => first | ((try dsimp only [L2.KOf]); k_is) | ((try dsimp only [L2.KOf]); k_exc) | rfl)
      (case t_NoMap => first | ((try dsimp only [L2.KOf]); k_is) | ((try dsimp only [L2.KOf]); k_exc) | rfl)
      (case g_NoMap => first | ((try dsimp only [L2.KOf]); k_is) | ((try dsimp only [L2.KOf]); k_exc) | rfl)
      (case q_NoMap => first | ((try dsimp only [L2.KOf]); k_is) | ((try dsimp only [L2.KOf]); k_exc) | rfl)
      (case h_NoMap => first | ((try dsimp only [L2.KOf]); k_is) | ((try dsimp only [L2.KOf]); k_exc) | rfl)
      (case c_NoMap => first | ((try dsimp only [L2.KOf]); k_is) | ((try dsimp only [L2.KOf]); k_exc) | rfl)
      (case n_NoMap => first | ((try dsimp only [L2.KOf]); k_is) | ((try dsimp only [L2.KOf]); k_exc) | rfl)
      (case tk_NoMap => first | ((try dsimp only [L2.KOf]); k_is) | ((try dsimp only [L2.KOf]); k_exc) | rfl)
      (case mr_NoMap => first | ((try dsimp only [L2.KOf]); k_is) | ((try dsimp only [L2.KOf]); k_exc) | rfl)
    have ex_TooMany : ∃ Cl, DL.ExcT (L2.KOf KX) mg "TooMany" Cl := by
      refine' ⟨_, DL.exc_mk KX G ?a_TooMany ?x_TooMany ?k_TooMany ?b_TooMany ?t_TooMany ?g_TooMany ?q_TooMany ?h_TooMany ?c_TooMany ?n_TooMany ?tk_TooMany ?mr_TooMany⟩
      (case a_TooMany => first | ((try dsimp only [L2.KOf]); k_is) | ((try dsimp only [L2.KOf]); k_exc) | rfl)
      (case x_TooMany => first | ((try dsimp only [L2.KOf]); k_is) | ((try dsimp only [L2.KOf]); k_exc) | rfl)
      (case k_TooMany => first | ((try dsimp only [L2.KOf]); k_is) | ((try dsimp only [L2.KOf]); k_exc) | rfl)
      (case b_TooMany => first | ((try dsimp only [L2.KOf]); k_is) | ((try dsimp only [L2.KOf]); k_exc) | rfl)
      (case t_TooMany => first | ((try dsimp only [L2.KOf]); k_is) | ((try dsimp only [L2.KOf]); k_exc) | rfl)
      (case g_TooMany => first | ((try dsimp only [L2.KOf]); k_is) | ((try dsimp only [L2.KOf]); k_exc) | rfl)
      (case q_TooMany => first | ((try dsimp only [L2.KOf]); k_is) | ((try dsimp only [L2.KOf]); k_exc) | rfl)
      (case h_TooMany => first | ((try dsimp only [L2.KOf]); k_is) | ((try dsimp only [L2.KOf]); k_exc) | rfl)
      (case c_TooMany => first | ((try dsimp only [L2.KOf]); k_is) | ((try dsimp only [L2.KOf]); k_exc) | rfl)
      (case n_TooMany => first | ((try dsimp only [L2.KOf]); k_is) | ((try dsimp only [L2.KOf]); k_exc) | rfl)
      (case tk_TooMany => first | ((try dsimp only [L2.KOf]); k_is) | ((try dsimp only [L2.KOf]); k_exc) | rfl)
      (case mr_TooMany => first | ((try dsimp only [L2.KOf]); k_is) | ((try dsimp only [L2.KOf]); k_exc) | rfl)
    have g_FAR : ∃ t, mg "FAR" = some (.int 1000000000000 t) := by
      first | exact DL.gint_of hX (by first | exact .head _ | exact .tail _ (.head _) | exact .tail _ (.tail _ (.head _)) | exact .tail _ (.tail _ (.tail _ (.head _))) | exact .tail _ (.tail _ (.tail _ (.tail _ (.head _)))) | exact .tail _ (.tail _ (.tail _ (.tail _ (.tail _ (.head _)))))) | exact DL.gcon_of (hC _ _ (by first | rfl | decide +kernel))
    have g_HEAVY : ∃ t, mg "HEAVY" = some (.int 1000000000 t) := by
      first | exact DL.gint_of hX (by first | exact .head _ | exact .tail _ (.head _) | exact .tail _ (.tail _ (.head _)) | exact .tail _ (.tail _ (.tail _ (.head _))) | exact .tail _ (.tail _ (.tail _ (.tail _ (.head _)))) | exact .tail _ (.tail _ (.tail _ (.tail _ (.tail _ (.head _)))))) | exact DL.gcon_of (hC _ _ (by first | rfl | decide +kernel))
    have g_MOST_DOTS : ∃ t, mg "MOST_DOTS" = some (.int 30 t) := by
      first | exact DL.gint_of hX (by first | exact .head _ | exact .tail _ (.head _) | exact .tail _ (.tail _ (.head _)) | exact .tail _ (.tail _ (.tail _ (.head _))) | exact .tail _ (.tail _ (.tail _ (.tail _ (.head _)))) | exact .tail _ (.tail _ (.tail _ (.tail _ (.tail _ (.head _)))))) | exact DL.gcon_of (hC _ _ (by first | rfl | decide +kernel))
    have b_ValueError : mg "ValueError" = none := by
      refine' PySem.W.mg_none_of KX G ?z; (case z => ((try dsimp only [L2.KOf]); k_is))
    have b_abs : mg "abs" = none := by
      refine' PySem.W.mg_none_of KX G ?z; (case z => ((try dsimp only [L2.KOf]); k_is))
    have b_bool : mg "bool" = none := by
      refine' PySem.W.mg_none_of KX G ?z; (case z => ((try dsimp only [L2.KOf]); k_is))
    have b_int : mg "int" = none := by
      refine' PySem.W.mg_none_of KX G ?z; (case z => ((try dsimp only [L2.KOf]); k_is))
    have b_isinstance : mg "isinstance" = none := by
      refine' PySem.W.mg_none_of KX G ?z; (case z => ((try dsimp only [L2.KOf]); k_is))
    have b_len : mg "len" = none := by
      refine' PySem.W.mg_none_of KX G ?z; (case z => ((try dsimp only [L2.KOf]); k_is))
    have b_list : mg "list" = none := by
      refine' PySem.W.mg_none_of KX G ?z; (case z => ((try dsimp only [L2.KOf]); k_is))
    have b_range : mg "range" = none := by
      refine' PySem.W.mg_none_of KX G ?z; (case z => ((try dsimp only [L2.KOf]); k_is))
    have b_tuple : mg "tuple" = none := by
      refine' PySem.W.mg_none_of KX G ?z; (case z => ((try dsimp only [L2.KOf]); k_is))
    have b_zip : mg "zip" = none := by
      refine' PySem.W.mg_none_of KX G ?z; (case z => ((try dsimp only [L2.KOf]); k_is))
    have nl : DL.NoLists (L2.KOf KX) := DL.noLists_of (by (try dsimp only [L2.KOf]); kernel_rfl)
    have s_NoDots_PlaneError : DL.SubT (L2.KOf KX) "NoDots" "PlaneError" true := by
      refine' DL.subT_mk ?a_NoDots_PlaneError ?b_NoDots_PlaneError ?s_NoDots_PlaneError ?t_NoDots_PlaneError; (case a_NoDots_PlaneError => ((try dsimp only [L2.KOf]); k_is)); (case b_NoDots_PlaneError => ((try dsimp only [L2.KOf]); k_is)); (case s_NoDots_PlaneError => ((try dsimp only [L2.KOf]); k_is)); (case t_NoDots_PlaneError => ((try dsimp only [L2.KOf]); k_is))
    have s_NoDots_NoDots : DL.SubT (L2.KOf KX) "NoDots" "NoDots" true := by
      refine' DL.subT_mk ?a_NoDots_NoDots ?b_NoDots_NoDots ?s_NoDots_NoDots ?t_NoDots_NoDots; (case a_NoDots_NoDots => ((try dsimp only [L2.KOf]); k_is)); (case b_NoDots_NoDots => ((try dsimp only [L2.KOf]); k_is)); (case s_NoDots_NoDots => ((try dsimp only [L2.KOf]); k_is)); (case t_NoDots_NoDots => ((try dsimp only [L2.KOf]); k_is))
    have s_NoDots_NoMap : DL.SubT (L2.KOf KX) "NoDots" "NoMap" false := by
      refine' DL.subT_mk ?a_NoDots_NoMap ?b_NoDots_NoMap ?s_NoDots_NoMap ?t_NoDots_NoMap; (case a_NoDots_NoMap => ((try dsimp only [L2.KOf]); k_is)); (case b_NoDots_NoMap => ((try dsimp only [L2.KOf]); k_is)); (case s_NoDots_NoMap => ((try dsimp only [L2.KOf]); k_is)); (case t_NoDots_NoMap => ((try dsimp only [L2.KOf]); k_is))
    have s_NoDots_TooMany : DL.SubT (L2.KOf KX) "NoDots" "TooMany" false := by
      refine' DL.subT_mk ?a_NoDots_TooMany ?b_NoDots_TooMany ?s_NoDots_TooMany ?t_NoDots_TooMany; (case a_NoDots_TooMany => ((try dsimp only [L2.KOf]); k_is)); (case b_NoDots_TooMany => ((try dsimp only [L2.KOf]); k_is)); (case s_NoDots_TooMany => ((try dsimp only [L2.KOf]); k_is)); (case t_NoDots_TooMany => ((try dsimp only [L2.KOf]); k_is))
    have s_NoDots_NoPlace : DL.SubT (L2.KOf KX) "NoDots" "NoPlace" false := by
      refine' DL.subT_mk ?a_NoDots_NoPlace ?b_NoDots_NoPlace ?s_NoDots_NoPlace ?t_NoDots_NoPlace; (case a_NoDots_NoPlace => ((try dsimp only [L2.KOf]); k_is)); (case b_NoDots_NoPlace => ((try dsimp only [L2.KOf]); k_is)); (case s_NoDots_NoPlace => ((try dsimp only [L2.KOf]); k_is)); (case t_NoDots_NoPlace => ((try dsimp only [L2.KOf]); k_is))
    have v_NoDots : DL.SubV (L2.KOf KX) "NoDots" := by
      refine' DL.subV_mk ?a_vNoDots ?s_vNoDots; (case a_vNoDots => ((try dsimp only [L2.KOf]); k_is)); (case s_vNoDots => ((try dsimp only [L2.KOf]); k_is))
    refine' DL.law_mk KX G hmg ?a ?l ?c ?k (fun _ _ _ _ _ _ u => rfl) (fun fd F base => DL.fn_law ⟨at_is_whole, at_is_near, at_is_dot, at_made_dots, at_law_whole, at_law_cell_at, at_law_stream, at_law_far, at_law_heavy, at_law_row, at_law_bad, at_law_refused, at_law_good, at_law_copy, ex_PlaneError, ex_NoPlace, ex_NoDots, ex_NoMap, ex_TooMany, g_FAR, g_HEAVY, g_MOST_DOTS, b_ValueError, b_abs, b_bool, b_int, b_isinstance, b_len, b_list, b_range, b_tuple, b_zip, nl, s_NoDots_PlaneError, s_NoDots_NoDots, s_NoDots_NoMap, s_NoDots_TooMany, s_NoDots_NoPlace, v_NoDots⟩ F)
    (case a => ((try dsimp only [L2.KOf]); k_is))
    (case l => ((try dsimp only [L2.KOf]); k_is))
    (case c => ((try dsimp only [L2.KOf]); k_is))
    (case k => ((try dsimp only [L2.KOf]); k_is))
